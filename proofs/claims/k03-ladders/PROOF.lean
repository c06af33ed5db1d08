import PyProof.Rows.All
import Wide.All
import OpenK.AllK
import Wide.FinOn
import HandS.ForMost
import HandS.ForExc
import HandS.CallSlots
import HandS.TupMul
import HandS.IsInst
import HandS.TupAny
import HandS.Conv
import HandS.Flow
import HandS.WideMore
import HandS.Deep
import HandS.TupLe
import HandS.SortInts
import HandS.DictComp
import KE.GoesEnum
import KE.GoesMore
import KE.GoesZip
import PyProof.EnumMake
import HandS.WordsExc
import KE.KSortTup
import HandS.SortRule
import HandS.SetFor
import HandS.Strs
import KE.DataAny
import PySem.Challenge.RW_lightfirst_k03_whole_ladders_and_noughts
set_option Elab.async false
set_option linter.all false
/-! ### DL1 -/
section
set_option linter.all false
set_option maxRecDepth 100000
/-! DL1: data, the store, how they lie in the hand layer's heap; results; readings made of results. -/
namespace DL
open PySem PySem.Spec L2
open PyProof.Rows hiding St

/-- data: tuples as trees; what may change by its place in the store; con: a constant of the text (a def, a class) -/
inductive D where
  | non | bl (b : Bool) | int (i : Int) | str (x : Str) | tup (xs : List D) | loc (n : Nat) | con (v : V)
/-- what stands in the store -/
inductive Ob where
  | lst (xs : List D)
  | dct (kvs : List (Key × D))
  | lok (kvs : List (Key × D))
  | ins (C : Addr) (fs : List (Str × D))
abbrev Sto := List Ob
abbrev Env := List (Option D)
/-- an exception: its class, its fields -/
structure Exn where
  cls : Addr
  fs : Option (List (Str × D))

mutual
inductive RD (K : PySem.W.Frag) (p : List Addr) (H : Hp) : D → V → Prop
  | non : RD K p H .non .non
  | bl (b : Bool) : RD K p H (.bl b) (.bl b)
  | int (i : Int) : RD K p H (.int i) (.int i)
  | str (x : Str) : RD K p H (.str x) (.str x)
  | tup {ds : List D} {a : Addr} {vs : List V} (h : SqT K H a vs) (r : RDs K p H ds vs) : RD K p H (.tup ds) (.ref a)
  | loc {n : Nat} {a : Addr} (h : p[n]? = some a) : RD K p H (.loc n) (.ref a)
  | con (v : V) : RD K p H (.con v) v
inductive RDs (K : PySem.W.Frag) (p : List Addr) (H : Hp) : List D → List V → Prop
  | nil : RDs K p H [] []
  | cons {d : D} {v : V} {ds : List D} {vs : List V} (h : RD K p H d v) (r : RDs K p H ds vs) : RDs K p H (d :: ds) (v :: vs)
end

/-- the heap goes on: places stay, tuples stay, what stands beside the store stays; new places were free -/
structure Ex (p : List Addr) (H : Hp) (p' : List Addr) (H' : Hp) : Prop where
  pre : ∃ q, p' = p ++ q
  tup : ∀ a xs, Rd H a (.tup xs) → Rd H' a (.tup xs)
  fr : ∀ a o, H a = some o → a ∉ p → H' a = some o
  nw : ∀ a, a ∈ p' → a ∉ p → H a = none
  fz : ∀ a o u, H a = some (.frz o u) → H' a = some (.frz o u)
/-- .. what data lean on -/
structure Ex0 (p : List Addr) (H : Hp) (p' : List Addr) (H' : Hp) : Prop where
  pre : ∃ q, p' = p ++ q
  tup : ∀ a xs, Rd H a (.tup xs) → Rd H' a (.tup xs)
theorem Ex.e0 {p p' : List Addr} {H H' : Hp} (e : Ex p H p' H') : Ex0 p H p' H' := ⟨e.pre, e.tup⟩
theorem Ex.refl {p : List Addr} {H : Hp} : Ex p H p H := ⟨⟨[], by simp⟩, fun _ _ h => h, fun _ _ h _ => h, fun _ h n => absurd h n, fun _ _ _ h => h⟩
theorem Ex.trans {p p1 p2 : List Addr} {H H1 H2 : Hp} (a : Ex p H p1 H1) (b : Ex p1 H1 p2 H2) : Ex p H p2 H2 := by
  refine ⟨?_, fun x xs h => b.tup x xs (a.tup x xs h), fun x o h n => ?_, fun x hx n => ?_, fun x o u h => b.fz x o u (a.fz x o u h)⟩
  · obtain ⟨q, rfl⟩ := a.pre
    obtain ⟨q2, rfl⟩ := b.pre
    exact ⟨q ++ q2, by simp⟩
  · refine b.fr x o (a.fr x o h n) fun hm => ?_
    rw [a.nw x hm n] at h; cases h
  · by_cases h1 : x ∈ p1
    · exact a.nw x h1 n
    · have h2 := b.nw x hx h1
      cases e : H x with
      | none => rfl
      | some o => rw [a.fr x o e n] at h2; cases h2
theorem Ex0.get {p p' : List Addr} {H H' : Hp} (e : Ex0 p H p' H') {n : Nat} {a : Addr} (h : p[n]? = some a) : p'[n]? = some a := by
  obtain ⟨q, rfl⟩ := e.pre
  have hn : n < p.length := (List.getElem?_eq_some_iff.mp h).1
  rw [List.getElem?_append_left hn]; exact h
theorem Ex0.sqt {K : PySem.W.Frag} {p p' : List Addr} {H H' : Hp} (e : Ex0 p H p' H') {a : Addr} {vs : List V} (h : SqT K H a vs) : SqT K H' a vs := by
  rcases h with h | h
  · exact .inl (e.tup _ _ h)
  · exact .inr h

section
variable {K : PySem.W.Frag} {p p' : List Addr} {H H' : Hp}
mutual
theorem RD.mono0 (e : Ex0 p H p' H') : ∀ {d : D} {v : V}, RD K p H d v → RD K p' H' d v
  | _, _, .non => .non
  | _, _, .bl b => .bl b
  | _, _, .int i => .int i
  | _, _, .str x => .str x
  | _, _, .tup h r => .tup (e.sqt h) (RDs.mono0 e r)
  | _, _, .loc h => .loc (e.get h)
  | _, _, .con v => .con v
theorem RDs.mono0 (e : Ex0 p H p' H') : ∀ {ds : List D} {vs : List V}, RDs K p H ds vs → RDs K p' H' ds vs
  | _, _, .nil => .nil
  | _, _, .cons h r =>  .cons (RD.mono0 e h) (RDs.mono0 e r)
end
theorem Ex.get {n : Nat} {a : Addr} (e : Ex p H p' H') (h : p[n]? = some a) : p'[n]? = some a := e.e0.get h
theorem Ex.sqt {a : Addr} {vs : List V} (e : Ex p H p' H') (h : SqT K H a vs) : SqT K H' a vs := e.e0.sqt h
theorem RD.mono (e : Ex p H p' H') {d : D} {v : V} (h : RD K p H d v) : RD K p' H' d v := RD.mono0 e.e0 h
theorem RDs.mono (e : Ex p H p' H') {d : List D} {v : List V} (h : RDs K p H d v) : RDs K p' H' d v := RDs.mono0 e.e0 h
theorem RDs.length : ∀ {ds : List D} {vs : List V}, RDs K p H ds vs → ds.length = vs.length
  | _, _, .nil => rfl
  | _, _, .cons _ r => by simp [RDs.length r]
theorem RDs.get : ∀ {ds : List D} {vs : List V} {i : Nat} {d : D}, RDs K p H ds vs → ds[i]? = some d → ∃ v, vs[i]? = some v ∧ RD K p H d v
  | _, _, _, _, .nil, e => by simp at e
  | _, _, 0, d, .cons h _, e => ⟨_, rfl, by simp at e; rw [← e]; exact h⟩
  | _, _, i + 1, d, .cons _ r, e => by
    obtain ⟨v, h1, h2⟩ := RDs.get (i := i) (d := d) r (by simpa using e)
    exact ⟨v, by simpa using h1, h2⟩
theorem RDs.append : ∀ {ds es : List D} {vs us : List V}, RDs K p H ds vs → RDs K p H es us → RDs K p H (ds ++ es) (vs ++ us)
  | _, _, _, _, .nil, s => s
  | _, _, _, _, .cons h r, s => .cons h (RDs.append r s)
theorem RDs.set : ∀ {ds : List D} {vs : List V} (i : Nat) {d : D} {v : V}, RDs K p H ds vs → RD K p H d v → RDs K p H (ds.set i d) (vs.set i v)
  | _, _, _, _, _, .nil, _ => .nil
  | _, _, 0, _, _, .cons _ r, h => .cons h r
  | _, _, i + 1, _, _, .cons q r, h => .cons q (RDs.set i r h)
theorem RDs.take : ∀ {ds : List D} {vs : List V} (n : Nat), RDs K p H ds vs → RDs K p H (ds.take n) (vs.take n)
  | _, _, 0, _ => by simp; exact .nil
  | _, _, _ + 1, .nil => .nil
  | _, _, n + 1, .cons h r => .cons h (RDs.take n r)
theorem RDs.drop : ∀ {ds : List D} {vs : List V} (n : Nat), RDs K p H ds vs → RDs K p H (ds.drop n) (vs.drop n)
  | _, _, 0, r => r
  | _, _, _ + 1, .nil => .nil
  | _, _, n + 1, .cons _ r => RDs.drop n r
theorem RDs.reverse {ds : List D} {vs : List V} (r : RDs K p H ds vs) : RDs K p H ds.reverse vs.reverse := by
  induction ds generalizing vs with
  | nil => cases r; exact .nil
  | cons d ds ih =>
    cases r with
    | cons h r => simp only [List.reverse_cons]; exact RDs.append (ih r) (.cons h .nil)
theorem RDs.ints : ∀ {ns : List Int} {vs : List V}, RDs K p H (ns.map .int) vs → vs = ns.map .int
  | [], _, .nil => rfl
  | n :: ns, _, .cons h r => by cases h; rw [RDs.ints r]; rfl
theorem RDs.of_ints : ∀ (ns : List Int), RDs K p H (ns.map .int) (ns.map .int)
  | [] => .nil
  | n :: ns => .cons (.int n) (RDs.of_ints ns)
theorem RDs.bls : ∀ {ns : List Bool} {vs : List V}, RDs K p H (ns.map .bl) vs → vs = ns.map .bl
  | [], _, .nil => rfl
  | n :: ns, _, .cons h r => by cases h; rw [RDs.bls r]; rfl
end

/-- fields, entries -/
def RF (K : PySem.W.Frag) (p : List Addr) (H : Hp) {κ : Type} : List (κ × D) → List (κ × V) → Prop := Paired fun a b => a.1 = b.1 ∧ RD K p H a.2 b.2
inductive RO (K : PySem.W.Frag) (p : List Addr) (H : Hp) : Ob → HO → Prop
  | lst {ds : List D} {vs : List V} (r : RDs K p H ds vs) : RO K p H (.lst ds) (.lst vs)
  | dct {ds : List (Key × D)} {vs : List (Key × V)} (r : RF K p H ds vs) : RO K p H (.dct ds) (.dK vs)
  | lok {ds : List (Key × D)} {vs : List (Key × V)} {o : Obj} (r : RF K p H ds vs) : RO K p H (.lok ds) (.frz o (.dK vs))
  | ins {C dx : Addr} {ds : List (Str × D)} {vs : List (Str × V)} (r : RF K p H ds vs) : RO K p H (.ins C ds) (.ins C dx vs)
section
variable {K : PySem.W.Frag} {p p' : List Addr} {H H' : Hp}
theorem RF.mono0 {κ : Type} {ds : List (κ × D)} {vs : List (κ × V)} (e : Ex0 p H p' H') (r : RF K p H ds vs) : RF K p' H' ds vs := Paired.mapP r fun _ _ q => ⟨q.1, q.2.mono0 e⟩
theorem RF.mono {κ : Type} {ds : List (κ × D)} {vs : List (κ × V)} (e : Ex p H p' H') (r : RF K p H ds vs) : RF K p' H' ds vs := r.mono0 e.e0
theorem RF.length {κ : Type} {ds : List (κ × D)} {vs : List (κ × V)} (r : RF K p H ds vs) : ds.length = vs.length := Paired.length r
theorem RO.mono0 {ob : Ob} {o : HO} (e : Ex0 p H p' H') (r : RO K p H ob o) : RO K p' H' ob o := by
  cases r with
  | lst r => exact .lst (r.mono0 e)
  | dct r => exact .dct (r.mono0 e)
  | lok r => exact .lok (r.mono0 e)
  | ins r => exact .ins (r.mono0 e)
theorem RO.mono {ob : Ob} {o : HO} (e : Ex p H p' H') (r : RO K p H ob o) : RO K p' H' ob o := r.mono0 e.e0
theorem RF.lookup {κ : Type} [BEq κ] [LawfulBEq κ] {k : κ} : ∀ {ds : List (κ × D)} {vs : List (κ × V)} {d : D}, RF K p H ds vs → ds.lookup k = some d → ∃ v, vs.lookup k = some v ∧ RD K p H d v
  | _, _, _, .nil, e => by simp at e
  | (k1, d1) :: ds, (k2, v2) :: vs, d, .cons q r, e => by
    obtain ⟨q1, q2⟩ := q
    dsimp only at q1 q2
    subst q1
    simp only [List.lookup] at e ⊢
    cases h : k == k1 with
    | true => rw [h] at e; cases e; exact ⟨v2, rfl, q2⟩
    | false => rw [h] at e; exact RF.lookup r e
theorem RF.lookup_none {κ : Type} [BEq κ] [LawfulBEq κ] {k : κ} : ∀ {ds : List (κ × D)} {vs : List (κ × V)}, RF K p H ds vs → ds.lookup k = none → vs.lookup k = none
  | _, _, .nil, e => by simp
  | (k1, d1) :: ds, (k2, v2) :: vs, .cons q r, e => by
    obtain ⟨q1, q2⟩ := q
    dsimp only at q1 q2
    subst q1
    simp only [List.lookup] at e ⊢
    cases h : k == k1 with
    | true => rw [h] at e; cases e
    | false => rw [h] at e; exact RF.lookup_none r e
end

/-- the store lies in the heap at the places p -/
structure RS (K : PySem.W.Frag) (p : List Addr) (s : Sto) (H : Hp) : Prop where
  len : p.length = s.length
  nd : p.Nodup
  ob : ∀ (n : Nat) (ob : Ob) (a : Addr), s[n]? = some ob → p[n]? = some a → ∃ o, H a = some o ∧ RO K p H ob o
/-- the slots -/
structure RE (K : PySem.W.Frag) (p : List Addr) (H : Hp) (r : Env) (t : St) : Prop where
  len : r.length = t.length
  at_ : ∀ (i : Nat) (d : D), r[i]? = some (some d) → ∃ v, t[i]? = some (some v) ∧ RD K p H d v
/-- an exception's dict -/
def RX (K : PySem.W.Frag) (p : List Addr) (H : Hp) (e : Exn) (d : Option Addr) : Prop := match e.fs with
  | none => d = none
  | some fs => ∃ a vs, d = some a ∧ H a = some (.xd vs) ∧ RF K p H fs vs
section
variable {K : PySem.W.Frag} {p p' : List Addr} {H H' : Hp} {s : Sto}
theorem RE.mono0 {r : Env} {t : St} (e : Ex0 p H p' H') (h : RE K p H r t) : RE K p' H' r t := ⟨h.len, fun i d q => let ⟨v, a, b⟩ := h.at_ i d q; ⟨v, a, b.mono0 e⟩⟩
theorem RE.mono {r : Env} {t : St} (e : Ex p H p' H') (h : RE K p H r t) : RE K p' H' r t := ⟨h.len, fun i d q => let ⟨v, a, b⟩ := h.at_ i d q; ⟨v, a, b.mono e⟩⟩
theorem RE.set {r : Env} {t : St} {i : Nat} {d : D} {v : V} (h : RE K p H r t) (q : RD K p H d v) : RE K p H (r.set i (some d)) (t.set i (some v)) := by
  refine ⟨by simp [h.len], fun j d' e => ?_⟩
  by_cases hj : i = j
  · subst hj
    have hi : i < r.length := by
      have := (List.getElem?_eq_some_iff.mp e).1
      simpa using this
    rw [List.getElem?_set_self hi] at e
    cases e
    exact ⟨v, by rw [List.getElem?_set_self (by rw [← h.len]; exact hi)], q⟩
  · rw [List.getElem?_set_ne hj] at e ⊢
    exact h.at_ j d' e
theorem RE.unset {r : Env} {t : St} (i : Nat) (h : RE K p H r t) : RE K p H (r.set i none) (t.set i none) := by
  refine ⟨by simp [h.len], fun j d' e => ?_⟩
  by_cases hj : i = j
  · subst hj
    have hi : i < r.length := by
      have := (List.getElem?_eq_some_iff.mp e).1
      simpa using this
    rw [List.getElem?_set_self hi] at e
    cases e
  · rw [List.getElem?_set_ne hj] at e ⊢
    exact h.at_ j d' e
theorem RS.mut {n : Nat} {ob : Ob} (h : RS K p s H) (e : s[n]? = some ob) : ∃ a o, p[n]? = some a ∧ H a = some o ∧ RO K p H ob o := by
  have hn : n < p.length := by rw [h.len]; exact (List.getElem?_eq_some_iff.mp e).1
  obtain ⟨o, h1, h2⟩ := h.ob n ob p[n] e (by simp [hn])
  exact ⟨p[n], o, by simp [hn], h1, h2⟩
theorem RS.fresh (h : RS K p s H) {a : Addr} (e : H a = none) : a ∉ p := by
  intro hm
  obtain ⟨n, hn, rfl⟩ := List.mem_iff_getElem.mp hm
  obtain ⟨o, h1, _⟩ := h.ob n (s[n]'(by rw [← h.len]; exact hn)) p[n] (by simp) (by simp)
  rw [h1] at e; cases e
/-- a tuple's place is no place of what changes -/
def NoTup : HO → Prop
  | .tup _ => False
  | .frz _ _ => False
  | _ => True
/-- .. it may be locked -/
def NoTup0 : HO → Prop
  | .tup _ => False
  | .frz _ (.tup _) => False
  | _ => True
theorem ex0_upd {a : Addr} {o o' : HO} (e : H a = some o) (n : NoTup0 o) : Ex0 p H p (upd H a o') := by
  refine ⟨⟨[], by simp⟩, fun b xs h => ?_⟩
  have hb : b ≠ a := by
    rintro rfl
    rcases h with h | ⟨u, h⟩
    · rw [e] at h; cases h; exact n
    · rw [e] at h; cases h; exact n
  rcases h with h | ⟨u, h⟩
  · exact .inl (by rw [upd_ne hb]; exact h)
  · exact .inr ⟨u, by rw [upd_ne hb]; exact h⟩
theorem NoTup.t0 {o : HO} (n : NoTup o) : NoTup0 o := by
  cases o <;> try exact n
  exact n.elim
theorem ex_upd {n : Nat} {a : Addr} {o o' : HO} (hp : p[n]? = some a) (e : H a = some o) (n : NoTup o) : Ex p H p (upd H a o') := by
  refine ⟨⟨[], by simp⟩, fun b xs h => ?_, fun b u h hb => by
    have : b ≠ a := by
      rintro rfl
      exact hb (List.mem_of_getElem? hp)
    rw [upd_ne this]; exact h, fun _ h n => absurd h n, fun b o2 u h => by
    have : b ≠ a := by
      rintro rfl
      rw [e] at h; cases h; exact n
    rw [upd_ne this]; exact h⟩
  have hb : b ≠ a := by
    rintro rfl
    rcases h with h | ⟨u, h⟩
    · rw [e] at h; cases h; exact n
    · rw [e] at h; cases h; exact n
  rcases h with h | ⟨u, h⟩
  · exact .inl (by rw [upd_ne hb]; exact h)
  · exact .inr ⟨u, by rw [upd_ne hb]; exact h⟩
theorem ex_newG {q : List Addr} {a : Addr} {o : HO} (hq : ∀ b ∈ q, b = a) (e : H a = none) : Ex p H (p ++ q) (upd H a o) := by
  refine ⟨⟨q, rfl⟩, fun b xs h => ?_, fun b u h _ => by rw [upd_ne (ne_of_none h e)]; exact h, fun b h n => ?_, fun b o2 u h => by rw [upd_ne (ne_of_none h e)]; exact h⟩
  rotate_left
  · rcases List.mem_append.mp h with h | h
    · exact absurd h n
    · rw [hq b h]; exact e
  have hb : b ≠ a := by
    rintro rfl
    rcases h with h | ⟨u, h⟩ <;> · rw [e] at h; cases h
  rcases h with h | ⟨u, h⟩
  · exact .inl (by rw [upd_ne hb]; exact h)
  · exact .inr ⟨u, by rw [upd_ne hb]; exact h⟩
theorem ex_new {a : Addr} {o : HO} (e : H a = none) : Ex p H (p ++ [a]) (upd H a o) := ex_newG (by simp) e
theorem ex_new0 {a : Addr} {o : HO} (e : H a = none) : Ex p H p (upd H a o) := by
  have := ex_newG (p := p) (q := []) (o := o) (by simp) e
  simpa using this
/-- what is new and not in the store -/
theorem RS.beside (h : RS K p s H) {a : Addr} {o : HO} (e : H a = none) : RS K p s (upd H a o) := by
  refine ⟨h.len, h.nd, fun n ob b e1 e2 => ?_⟩
  obtain ⟨u, h1, h2⟩ := h.ob n ob b e1 e2
  exact ⟨u, by rw [upd_ne (ne_of_none h1 e)]; exact h1, h2.mono (ex_new0 e)⟩
/-- a new object of the store -/
theorem RS.push (h : RS K p s H) {a : Addr} {ob : Ob} {o : HO} (e : H a = none) (r : RO K (p ++ [a]) (upd H a o) ob o) : RS K (p ++ [a]) (s ++ [ob]) (upd H a o) := by
  refine ⟨by simp [h.len], ?_, fun n ob' b e1 e2 => ?_⟩
  · rw [List.nodup_append]
    refine ⟨h.nd, by simp, fun x hx y hy => ?_⟩
    have : y = a := by simpa using hy
    subst this
    rintro rfl
    exact h.fresh e hx
  · by_cases hn : n < s.length
    · rw [List.getElem?_append_left hn] at e1
      rw [List.getElem?_append_left (by rw [h.len]; exact hn)] at e2
      obtain ⟨u, h1, h2⟩ := h.ob n ob' b e1 e2
      exact ⟨u, by rw [upd_ne (ne_of_none h1 e)]; exact h1, h2.mono (ex_new e)⟩
    · have hn' : n = s.length := by
        have := (List.getElem?_eq_some_iff.mp e1).1
        simp at this; omega
      subst hn'
      rw [List.getElem?_append_right (Nat.le_refl _)] at e1
      rw [List.getElem?_append_right (by rw [h.len]; exact Nat.le_refl _), h.len] at e2
      simp at e1 e2
      subst e1 e2
      exact ⟨o, upd_same, r⟩
/-- an object of the store is changed -/
theorem RS.put (h : RS K p s H) {n : Nat} {a : Addr} {ob : Ob} {o o1 : HO} (hn : p[n]? = some a) (e : H a = some o1) (nt : NoTup0 o1) (r : RO K p (upd H a o) ob o) : RS K p (s.set n ob) (upd H a o) := by
  refine ⟨by simp [h.len], h.nd, fun m ob' b e1 e2 => ?_⟩
  by_cases hm : n = m
  · subst hm
    have hl : n < s.length := by rw [← h.len]; exact (List.getElem?_eq_some_iff.mp hn).1
    rw [List.getElem?_set_self hl] at e1
    cases e1
    rw [hn] at e2; cases e2
    exact ⟨o, upd_same, r⟩
  · rw [List.getElem?_set_ne hm] at e1
    obtain ⟨u, h1, h2⟩ := h.ob m ob' b e1 e2
    have hb : b ≠ a := by
      rintro rfl
      have hn1 := List.getElem?_eq_some_iff.mp hn
      have hm1 := List.getElem?_eq_some_iff.mp e2
      obtain ⟨l1, q1⟩ := hn1
      obtain ⟨l2, q2⟩ := hm1
      exact hm ((List.getElem_inj h.nd).mp (q1.trans q2.symm))
    exact ⟨u, by rw [upd_ne hb]; exact h1, h2.mono0 (ex0_upd e nt)⟩
end

/-! ### results -/
inductive R (α : Type) where
  | ok (a : α) (s : Sto)
  | exc (e : Exn) (s : Sto)
  | bad
def R.bind {α β : Type} : R α → (α → Sto → R β) → R β
  | .ok a s, f => f a s
  | .exc e s, _ => .exc e s
  | .bad, _ => .bad
@[simp] theorem R.bind_ok {α β : Type} {a : α} {s : Sto} {f : α → Sto → R β} : (R.ok a s).bind f = f a s := rfl
@[simp] theorem R.bind_exc {α β : Type} {e : Exn} {s : Sto} {f : α → Sto → R β} : (R.exc e s).bind f = .exc e s := rfl
@[simp] theorem R.bind_bad {α β : Type} {f : α → Sto → R β} : (R.bad).bind f = .bad := rfl
inductive S where
  | nx (r : Env) (s : Sto) | rt (d : D) (s : Sto) | bk (r : Env) (s : Sto) | ct (r : Env) (s : Sto) | exc (e : Exn) (r : Env) (s : Sto) | bad
abbrev ME := Env → Sto → R D
abbrev MT := Env → Sto → R Bool
abbrev MA := Env → Sto → R (List D)
abbrev MG := D → Env → Sto → R Env
abbrev MS := Env → Sto → S
abbrev MF := List D → Sto → R D

/-- an expression's result and what is wanted of it -/
def pR {α : Type} (K : PySem.W.Frag) (W : WX) (t : St) (p : List Addr) (H : Hp) (r : R α) (k : List Addr → Hp → α → Sto → Prop) : Prop := match r with
  | .ok a s => ∀ p' H', Ex p H p' H' → RS K p' s H' → k p' H' a s
  | .exc e s => ∀ p' H' d, Ex p H p' H' → RS K p' s H' → RX K p' H' e d → W (.ref e.cls) d t H'
  | .bad => False
/-- a statement's -/
def pS (K : PySem.W.Frag) (W : WX) (D : Ends) (p : List Addr) (H : Hp) (r : S) : Prop := match r with
  | .nx r s => ∀ p' H' t, Ex p H p' H' → RS K p' s H' → RE K p' H' r t → D.nx t H'
  | .rt d s => ∀ p' H' v, Ex p H p' H' → RS K p' s H' → RD K p' H' d v → D.rt v H'
  | .bk r s => ∀ p' H' t, Ex p H p' H' → RS K p' s H' → RE K p' H' r t → D.bk t H'
  | .ct r s => ∀ p' H' t, Ex p H p' H' → RS K p' s H' → RE K p' H' r t → D.ct t H'
  | .exc e r s => ∀ p' H' t d, Ex p H p' H' → RS K p' s H' → RE K p' H' r t → RX K p' H' e d → W (.ref e.cls) d t H'
  | .bad => False
section
variable {K : PySem.W.Frag} {W : WX} {p p' : List Addr} {H H' : Hp} {t : St}
theorem pR.mono {α : Type} {r : R α} {k : List Addr → Hp → α → Sto → Prop} (e : Ex p H p' H') (h : pR K W t p H r k) : pR K W t p' H' r k := by
  cases r with
  | ok a s => exact fun p2 H2 e2 => h p2 H2 (e.trans e2)
  | exc x s => exact fun p2 H2 d e2 => h p2 H2 d (e.trans e2)
  | bad => exact h
theorem pS.mono {D : Ends} {r : S} (e : Ex p H p' H') (h : pS K W D p H r) : pS K W D p' H' r := by
  cases r with
  | nx r s => exact fun p2 H2 t e2 => h p2 H2 t (e.trans e2)
  | rt d s => exact fun p2 H2 v e2 => h p2 H2 v (e.trans e2)
  | bk r s => exact fun p2 H2 t e2 => h p2 H2 t (e.trans e2)
  | ct r s => exact fun p2 H2 t e2 => h p2 H2 t (e.trans e2)
  | exc x r s => exact fun p2 H2 t d e2 => h p2 H2 t d (e.trans e2)
  | bad => exact h
theorem pR.imp {α : Type} {r : R α} {k k' : List Addr → Hp → α → Sto → Prop} (h : pR K W t p H r k) (f : ∀ p' H' a s, Ex p H p' H' → RS K p' s H' → k p' H' a s → k' p' H' a s) : pR K W t p H r k' := by
  cases r with
  | ok a s => exact fun p2 H2 e2 r2 => f p2 H2 a s e2 r2 (h p2 H2 e2 r2)
  | exc x s => exact h
  | bad => exact h
/-- what is behind a step -/
theorem pR.bind {α β : Type} {r : R α} {f : α → Sto → R β} {k : List Addr → Hp → β → Sto → Prop} (h : pR K W t p H (r.bind f) k) :
    pR K W t p H r (fun p' H' a s => pR K W t p' H' (f a s) k) := by
  cases r with
  | ok a s => exact fun p2 H2 e2 _ => pR.mono e2 h
  | exc x s => exact h
  | bad => exact h
end

/-! ### readings -/
def tE (K : PySem.W.Frag) (W : WX) (m : ME) : TE := fun t H Q => ∃ p r s, RE K p H r t ∧ RS K p s H ∧ pR K W t p H (m r s) fun p' H' d _ => ∀ v, RD K p' H' d v → Q v H'
def tT (K : PySem.W.Frag) (W : WX) (m : MT) : TT := fun t H Q => ∃ p r s, RE K p H r t ∧ RS K p s H ∧ pR K W t p H (m r s) fun _ H' b _ => Q b H'
def tA (K : PySem.W.Frag) (W : WX) (m : MA) : TA := fun t H Q => ∃ p r s, RE K p H r t ∧ RS K p s H ∧ pR K W t p H (m r s) fun p' H' ds _ => ∀ vs, RDs K p' H' ds vs → Q vs H'
/-- an expression whose value is a list just made: its items -/
def tL (K : PySem.W.Frag) (W : WX) (m : MA) : TE := fun t H Q => ∃ p r s, RE K p H r t ∧ RS K p s H ∧ pR K W t p H (m r s) fun p' H' ds _ => ∀ a vs, H' a = none → RDs K p' H' ds vs → Q (.ref a) (upd H' a (.lst vs))
def gG (K : PySem.W.Frag) (W : WX) (m : MG) : TG := fun v t H Q => ∃ p r s d, RE K p H r t ∧ RS K p s H ∧ RD K p H d v ∧ pR K W t p H (m d r s) fun p' H' r' _ => ∀ t', RE K p' H' r' t' → Q t' H'
def tS (K : PySem.W.Frag) (W : WX) (m : MS) : TS := fun D t H => ∃ p r s, RE K p H r t ∧ RS K p s H ∧ pS K W D p H (m r s)

abbrev DE (X : Cx) (W : WX) (e : Expr) (m : ME) : Prop := PE X e (tE X.K W m)
abbrev DT (X : Cx) (W : WX) (e : Expr) (m : MT) : Prop := PT X e (tT X.K W m)
abbrev DA (X : Cx) (W : WX) (es : List Expr) (m : MA) : Prop := PA X es (tA X.K W m)
abbrev DLs (X : Cx) (W : WX) (e : Expr) (m : MA) : Prop := PE X e (tL X.K W m)
abbrev DG (X : Cx) (W : WX) (e : Expr) (m : MG) : Prop := PG X e (gG X.K W m)
abbrev DS (X : Cx) (W : WX) (st : Stmt) (m : MS) : Prop := PS X st (tS X.K W m)
abbrev DSs (X : Cx) (W : WX) (st : List Stmt) (m : MS) : Prop := PSs X st (tS X.K W m)

section
variable {X : Cx}
theorem PE.imp {e : Expr} {t t' : TE} (h : PE X e t) (f : ∀ σ H Q, t' σ H Q → t σ H Q) : PE X e t' := ⟨fun pins s σ H Q I q => h.run pins s σ H Q I (f σ H Q q)⟩
theorem PT.imp {e : Expr} {t t' : TT} (h : PT X e t) (f : ∀ σ H Q, t' σ H Q → t σ H Q) : PT X e t' := ⟨fun pins s σ H Q I q => h.run pins s σ H Q I (f σ H Q q)⟩
theorem PA.imp {e : List Expr} {t t' : TA} (h : PA X e t) (f : ∀ σ H Q, t' σ H Q → t σ H Q) : PA X e t' := ⟨fun pos pins s σ H Q I q => h.run pos pins s σ H Q I (f σ H Q q)⟩
theorem PG.imp {e : Expr} {t t' : TG} (h : PG X e t) (f : ∀ v σ H Q, t' v σ H Q → t v σ H Q) : PG X e t' := ⟨fun pins s σ H v u Q I r q => h.run pins s σ H v u Q I r (f v σ H Q q)⟩
theorem PS.imp {e : Stmt} {t t' : TS} (h : PS X e t) (f : ∀ D σ H, t' D σ H → t D σ H) : PS X e t' := ⟨fun pins s σ H D I q => h.run pins s σ H D I (f D σ H q)⟩
theorem PSs.imp {e : List Stmt} {t t' : TS} (h : PSs X e t) (f : ∀ D σ H, t' D σ H → t D σ H) : PSs X e t' := ⟨fun pins s σ H D I q => h.run pins s σ H D I (f D σ H q)⟩
theorem OpR.imp {f : Value → Value → Sem Value} {r r' : R2} (h : OpR X f r) (g : ∀ x y H Q, r' x y H Q → r x y H Q) : OpR X f r' := fun pins s σ H x y v u Q I rx ry q => h pins s σ H x y v u Q I rx ry (g x y H Q q)
end

/-! ### composition -/
section
variable {K : PySem.W.Frag} {W : WX} {t : St} {H : Hp}
/-- from a bind: the first part, then the second -/
theorem tE.step {m : ME} {f : D → Sto → R D} {p : List Addr} {r : Env} {s : Sto} {Q : VK} {Q1 : VK} (he : RE K p H r t) (hs : RS K p s H)
    (h : pR K W t p H ((m r s).bind f) fun p' H' d _ => ∀ v, RD K p' H' d v → Q v H')
    (g : ∀ p1 H1 d v s1, Ex p H p1 H1 → RS K p1 s1 H1 → RE K p1 H1 r t → RD K p1 H1 d v → (pR K W t p1 H1 (f d s1) fun p' H' d _ => ∀ v, RD K p' H' d v → Q v H') → Q1 v H1) : tE K W m t H Q1 :=
  ⟨p, r, s, he, hs, (pR.bind h).imp fun p1 H1 d s1 e1 r1 q v rv => g p1 H1 d v s1 e1 r1 (he.mono e1) rv q⟩
end
end DL
end
/-! ### DL0 -/
section
set_option linter.all false
set_option maxRecDepth 100000
set_option maxHeartbeats 4000000
/-! DL0: tuple * 1, tuple * 0. -/
namespace L2
open PySem PySem.Spec PyProof.Rows
theorem tup_mul1 (l : Addr) (items : Array Value) (n : Nat) (dd : Option Addr) (sl : Array (Option Value)) (u : Tok) :
    Meets (Builtin.«tuple.__mul__» ⟨[.ref l, .int 1 u], []⟩) (fun _ R s => s.heap.get? l = some { cls := .type "tuple", dict := dd, data := .seq items n, slots := sl } ∧ R (.ok (.ret (.ref l))) s) :=
  .of_wp fun prog w A R s h => by
    obtain ⟨hp, g, d, tk, os⟩ := s
    obtain ⟨hl, h⟩ := h
    have f1 := AutoSeq1.idx_int
    have c0 : (decide ((1 : Int) < -(2 ^ 63)) || decide ((1 : Int) ≥ 2 ^ 63)) = false := by decide
    have c1 : (items.isEmpty || (1 : Int) == 1) = true := by simp
    wp_walk using wpAny_loadPart' hl
    repeat (first
      | (refine wpAny_ite_false (decide_eq_false (by rw [c0]; exact Bool.false_ne_true)) ?_; wp_walk using wpAny_loadPart' hl)
      | (refine wpAny_ite_true (decide_eq_true c1) ?_; wp_walk using wpAny_loadPart' hl))
    exact ⟨_, rfl, h⟩
theorem tup_mul0 (l : Addr) (items : Array Value) (n : Nat) (dd : Option Addr) (sl : Array (Option Value)) (u : Tok) (hi : items.isEmpty = false) :
    Meets (Builtin.«tuple.__mul__» ⟨[.ref l, .int 0 u], []⟩) (fun _ R s => s.heap.get? l = some { cls := .type "tuple", dict := dd, data := .seq items n, slots := sl } ∧
      R (.ok (.ret (Value.ref s.heap.objs.size))) { s with heap := s.heap.push { cls := Value.type "tuple", data := Data.seq #[] }, toks := s.toks }) :=
  .of_wp fun prog w A R s h => by
    obtain ⟨hp, g, d, tk, os⟩ := s
    obtain ⟨hl, h⟩ := h
    have f1 := AutoSeq1.idx_int
    have c0 : (decide ((0 : Int) < -(2 ^ 63)) || decide ((0 : Int) ≥ 2 ^ 63)) = false := by decide
    have c1 : (items.isEmpty || (0 : Int) == 1) = false := by rw [hi]; decide
    have c2 : (decide ((0 : Int) ≤ 0) || items.isEmpty) = true := by simp
    wp_walk using wpAny_loadPart' hl
    repeat (first
      | (refine wpAny_ite_false (decide_eq_false (by rw [c0]; exact Bool.false_ne_true)) ?_; wp_walk using wpAny_loadPart' hl)
      | (refine wpAny_ite_false (decide_eq_false (by rw [c1]; exact Bool.false_ne_true)) ?_; wp_walk using wpAny_loadPart' hl)
      | (refine wpAny_ite_true (decide_eq_true c2) ?_; wp_walk using wpAny_loadPart' hl))
    exact ⟨_, rfl, h⟩
def rRep01 (K : PySem.W.Frag) : R2 := fun x y H Q => ∃ l xs, x = .ref l ∧ SqT K H l xs ∧ xs ≠ [] ∧ ((y = .int 1 ∧ Q (.ref l) H) ∨ (y = .int 0 ∧ ∀ p, H p = none → Q (.ref p) (upd H p (.tup []))))
theorem op_rep01 {X : Cx} : OpR X (binaryOp .Mult) (rRep01 X.K) := by
  intro pins s σ H x y v u Q I rx ry h
  obtain ⟨l, xs, rfl, hT, hne, h⟩ := h
  cases rx
  obtain ⟨its, r, ⟨⟨cls, dd, data, sl⟩, ho, hc, n, hd⟩, hs⟩ := I.tuple hT
  simp only at hc hd
  subst hc hd
  have hn : its ≠ [] := fun e => hne (by
    have hle : its.length = xs.length := r.length.symm
    rw [e] at hle
    exact List.eq_nil_of_length_eq_zero hle.symm)
  have hi : its.toArray.isEmpty = false := by
    cases its with
    | nil => exact absurd rfl hn
    | cons a b => rfl
  rcases h with ⟨rfl, q⟩ | ⟨rfl, q⟩
  · obtain ⟨t, rfl⟩ := ry
    refine wpAny_binaryOp_repeat_ref (T := "tuple") (U := "int") (by decide) ⟨_, ho, rfl⟩ (fun s' => typeIs_int s' 1 t) noFill_tuple_mul F.fills_int_mul F.slot_int_rmul repeat_tuple F.slot_int_index.lookup
      (call_meets F.slot_int_rmul (typeIs_int s 1 t) F.entry_int_rmul (F.args_int_rmul_2 _ _) (int_rmul_tuple 1 t l its.toArray n dd sl)
        ⟨ho, rfl, ⟨_, ho, rfl⟩, call_meets F.slot_tuple_mul ⟨_, ho, rfl⟩ F.entry_tuple_mul (F.args_tuple_mul_2 _ _) (tup_mul1 l its.toArray n dd sl t) ⟨ho, ?_⟩⟩)
    exact ⟨.ref l, H, I, rfl, q⟩
  · obtain ⟨t, rfl⟩ := ry
    refine wpAny_binaryOp_repeat_ref (T := "tuple") (U := "int") (by decide) ⟨_, ho, rfl⟩ (fun s' => typeIs_int s' 0 t) noFill_tuple_mul F.fills_int_mul F.slot_int_rmul repeat_tuple F.slot_int_index.lookup
      (call_meets F.slot_int_rmul (typeIs_int s 0 t) F.entry_int_rmul (F.args_int_rmul_2 _ _) (int_rmul_tuple 0 t l its.toArray n dd sl)
        ⟨ho, rfl, ⟨_, ho, rfl⟩, call_meets F.slot_tuple_mul ⟨_, ho, rfl⟩ F.entry_tuple_mul (F.args_tuple_mul_2 _ _) (tup_mul0 l its.toArray n dd sl t hi) ⟨ho, ?_⟩⟩)
    refine ⟨.ref s.heap.objs.size, _, I.laid (t' := s.toks) (o := .tup []) (fun b ob q => Heap.get?_push_of_some _ q) (Nat.le_refl _) ?_, rfl, q _ (I.hok.fresh (Nat.le_refl _))⟩
    exact ⟨Nat.zero_le _, [], .nil, IsTup.new _ _⟩
end L2
end
/-! ### DL2 -/
section
set_option linter.all false
set_option maxRecDepth 100000
/-! DL2: expressions. -/
namespace DL
open PySem PySem.Spec L2
open PyProof.Rows hiding St

/-- a value and a store are there -/
def Fin (K : PySem.W.Frag) (p : List Addr) (H : Hp) (z : D) (s : Sto) (Q : VK) : Prop := ∀ p' H' v, Ex p H p' H' → RS K p' s H' → RD K p' H' z v → Q v H'
def R.of {α : Type} : Option (α × Sto) → R α
  | some (a, s) => .ok a s
  | none => .bad
@[simp] theorem R.of_some {α : Type} {a : α} {s : Sto} : R.of (some (a, s)) = .ok a s := rfl
@[simp] theorem R.of_none {α : Type} : R.of (none : Option (α × Sto)) = .bad := rfl
abbrev G2 := D → D → Sto → Option (D × Sto)
abbrev GF := List D → Sto → Option (D × Sto)
section
variable {K : PySem.W.Frag} {p : List Addr} {H : Hp} {s : Sto} {Q : VK}
theorem Fin.now {z : D} {v : V} (h : Fin K p H z s Q) (hs : RS K p s H) (r : RD K p H z v) : Q v H := h p H v .refl hs r
theorem Fin.lst {ds : List D} {vs : List V} {a : Addr} (h : Fin K p H (.loc s.length) (s ++ [.lst ds]) Q) (hs : RS K p s H) (r : RDs K p H ds vs) (ha : H a = none) : Q (.ref a) (upd H a (.lst vs)) :=
  h (p ++ [a]) _ _ (ex_new ha) (hs.push ha (.lst (r.mono (ex_new ha)))) (.loc (by rw [← hs.len]; simp))
theorem Fin.tup {ds : List D} {vs : List V} {a : Addr} (h : Fin K p H (.tup ds) s Q) (hs : RS K p s H) (r : RDs K p H ds vs) (ha : H a = none) : Q (.ref a) (upd H a (.tup vs)) :=
  h p _ _ (ex_new0 ha) (hs.beside ha) (.tup (SqT.of upd_same) (r.mono (ex_new0 ha)))
theorem pR.fin {W : WX} {t : L2.St} {o : Option (D × Sto)} (h : pR K W t p H (R.of o) fun p' H' d _ => ∀ v, RD K p' H' d v → Q v H') : ∃ z s', o = some (z, s') ∧ Fin K p H z s' Q := by
  cases o with
  | none => exact h.elim
  | some q => obtain ⟨z, s'⟩ := q; exact ⟨z, s', rfl, fun p' H' v e r rd => h p' H' e r v rd⟩
theorem fin_pR {W : WX} {t : L2.St} {z : D} {s' : Sto} (h : Fin K p H z s' Q) : pR K W t p H (R.ok z s') fun p' H' d _ => ∀ v, RD K p' H' d v → Q v H' := fun p' H' e r v rd => h p' H' v e r rd
end
def OpD (X : Cx) (f : Value → Value → Sem Value) (g : G2) : Prop := OpR X f (fun x y H Q => ∃ p s d e z s', RS X.K p s H ∧ RD X.K p H d x ∧ RD X.K p H e y ∧ g d e s = some (z, s') ∧ Fin X.K p H z s' Q)
def CallD (X : Cx) (f : Value) (g : GF) : Prop := CallR X f (fun vs H Q => ∃ p s ds z s', RS X.K p s H ∧ RDs X.K p H ds vs ∧ g ds s = some (z, s') ∧ Fin X.K p H z s' Q)
theorem CallR.imp {X : Cx} {f : Value} {r r' : List V → Hp → VK → Prop} (h : CallR X f r) (g : ∀ xs H Q, r' xs H Q → r xs H Q) : CallR X f r' := fun pins s σ H xs us Q I rv q => h pins s σ H xs us Q I rv (g xs H Q q)
theorem CallR.or {X : Cx} {f : Value} {r r' : List V → Hp → VK → Prop} (h : CallR X f r) (h' : CallR X f r') : CallR X f (fun xs H Q => r xs H Q ∨ r' xs H Q) := fun pins s σ H xs us Q I rv q =>
  q.elim (fun z => h pins s σ H xs us Q I rv z) fun z => h' pins s σ H xs us Q I rv z

/-! ### names, constants -/
def mVar (i : Nat) : ME := fun r s => match r[i]? with
  | some (some d) => .ok d s
  | _ => .bad
def mC (d : D) : ME := fun _ s => .ok d s
section
variable {X : Cx} {W : WX} {pos : Pos}
theorem de_var (i : Nat) {x : Str} (h : PE X (.Name x pos) (tVar i)) : DE X W (.Name x pos) (mVar i) := PE.imp h fun t H Q ⟨p, r, s, he, hs, q⟩ => by
  simp only [mVar] at q
  split at q
  · rename_i d e
    obtain ⟨v, h1, h2⟩ := he.at_ i d e
    exact ⟨v, h1, q p H .refl hs v h2⟩
  · exact q.elim
theorem de_c {e : Expr} {v : V} {d : D} (h : PE X e (tC v)) (r : ∀ p H, RD X.K p H d v) : DE X W e (mC d) := PE.imp h fun t H Q ⟨p, _, s, he, hs, q⟩ => q p H .refl hs v (r p H)
theorem de_int {i : Int} {j : Nat} : DE X W (.Constant (.int i) j pos) (mC (.int i)) := de_c pe_int fun _ _ => .int i
theorem de_bl {b : Bool} {j : Nat} : DE X W (.Constant (.bool b) j pos) (mC (.bl b)) := de_c pe_bl fun _ _ => .bl b
theorem de_non {j : Nat} : DE X W (.Constant .none j pos) (mC .non) := de_c pe_non fun _ _ => .non
theorem de_str {x : Str} {j : Nat} : DE X W (.Constant (.str x) j pos) (mC (.str x)) := de_c pe_str fun _ _ => .str x
/-- a module's int -/
theorem de_gint {x : Str} {i : Int} {k : Tok} (hg : Gl X x) (hm : X.mg x = some (.int i k)) (hd : (x == ("__debug__" : Str)) = false := by decide) : DE X W (.Name x pos) (mC (.int i)) := de_c (v := .int i) (pe_glob hg hm ⟨k, rfl⟩ hd) fun _ _ => .int i
/-- a class, a def of the module as a value -/
theorem de_gref {x : Str} {a : Addr} (hg : Gl X x) (hm : X.mg x = some (.ref a)) (hd : (x == ("__debug__" : Str)) = false := by decide) : DE X W (.Name x pos) (mC (.con (.ref a))) := de_c (v := .ref a) (pe_glob hg hm rfl hd) fun _ _ => .con _
theorem de_ty {x : Str} {n : String} (hg : Gl X x) (hm : X.mg x = none) (hv : bootBuiltins x = some (.type n)) (hn : x ≠ "__name__" := by decide) (hd : (x == ("__debug__" : Str)) = false := by decide) : DE X W (.Name x pos) (mC (.con (.ty n))) :=
  de_c (v := .ty n) (pe_bltn hg hm hv rfl hn hd) fun _ _ => .con _
end

/-! ### two-place operations -/
def mBin (g : G2) (m n : ME) : ME := fun r s => (m r s).bind fun d s1 => (n r s1).bind fun e s2 => R.of (g d e s2)
section
variable {X : Cx} {W : WX} {pos : Pos} {a b : Expr} {m n : ME}
theorem tOp_of {g : G2} {t : L2.St} {H : Hp} {Q : VK} (q : tE X.K W (mBin g m n) t H Q) :
    tOp (fun x y H Q => ∃ p s d e z s', RS X.K p s H ∧ RD X.K p H d x ∧ RD X.K p H e y ∧ g d e s = some (z, s') ∧ Fin X.K p H z s' Q) (tE X.K W m) (tE X.K W n) t H Q := by
  obtain ⟨p, r, s, he, hs, q⟩ := q
  refine tE.step he hs q fun p1 H1 d v s1 e1 r1 he1 rd q1 => ?_
  refine tE.step he1 r1 q1 fun p2 H2 e u s2 e2 r2 he2 rd2 q2 => ?_
  obtain ⟨z, s', hz, hf⟩ := pR.fin q2
  exact ⟨p2, s2, d, e, z, s', r2, rd.mono e2, rd2, hz, hf⟩
theorem de_bin {op : Operator} {g : G2} (ho : OpD X (binaryOp op) g) (ha : DE X W a m) (hb : DE X W b n) : DE X W (.BinOp a op b pos) (mBin g m n) := PE.imp (pe_op ho ha hb) fun _ _ _ q => tOp_of q
theorem de_cmp {op : CmpOp} {g : G2} (ho : OpD X (compareOp op) g) (ha : DE X W a m) (hb : DE X W b n) (hm : behindInMarks op b = false) : DE X W (.Compare a [op] [b] pos) (mBin g m n) := PE.imp (pe_cmpR ho ha hb hm) fun _ _ _ q => tOp_of q
end

/-- + -/
def gAdd : G2
  | .int i, .int j, s => some (.int (i + j), s)
  | .int i, .bl k, s => some (.int (i + b2i k), s)
  | .str x, .str y, s => if x.length + y.length ≤ sizeLine then some (.str (x ++ y), s) else none
  | .tup xs, .tup ys, s => if xs.length + ys.length ≤ sizeLine then some (.tup (xs ++ ys), s) else none
  | .loc a, .loc b, s => match s[a]?, s[b]? with
    | some (.lst xs), some (.lst ys) => if xs.length + ys.length ≤ sizeLine then some (.loc s.length, s ++ [.lst (xs ++ ys)]) else none
    | _, _ => none
  | _, _, _ => none
def gSub : G2
  | .int i, .int j, s => some (.int (i - j), s)
  | _, _, _ => none
/-- * : ints, together below a million bits; a list so many times -/
def gMul : G2
  | .int i, .int j, s => if (-(2 ^ 64) < i ∧ i < 2 ^ 64) ∨ (-(2 ^ 64) < j ∧ j < 2 ^ 64) then some (.int (i * j), s) else none
  | .loc a, .int k, s => match s[a]? with
    | some (.lst xs) => if -(2 ^ 63) ≤ k ∧ k < 2 ^ 63 ∧ xs.length * k.toNat ≤ sizeLine then some (.loc s.length, s ++ [.lst (List.replicate k.toNat xs).flatten]) else none
    | _ => none
  | .tup xs, .int k, s => if xs ≠ [] ∧ 2 ≤ k ∧ k ≤ 1000 ∧ xs.length ≤ 1000 then some (.tup (List.replicate k.toNat xs).flatten, s) else if xs ≠ [] ∧ k = 1 then some (.tup xs, s) else if xs ≠ [] ∧ k = 0 then some (.tup [], s) else none
  | _, _, _ => none
def gMod : G2
  | .int i, .int j, s => if 0 < j then some (.int (i % j), s) else none
  | _, _, _ => none
def gFdiv : G2
  | .int i, .int j, s => if 0 < j ∧ j < 1073741824 then some (.int (i / j), s) else none
  | _, _, _ => none
def gPow : G2
  | .int i, .int j, s => if 0 ≤ j ∧ j ≤ 1000000 ∧ i.natAbs < 2 ^ 64 then some (.int (i ^ j.toNat), s) else none
  | _, _, _ => none
section
variable {X : Cx}
theorem op_addD : OpD X (binaryOp .Add) gAdd := by
  refine OpR.imp (((((op_add.or op_add_ib).or op_add_str).or op_catA).or op_cat)) fun x y H Q h => ?_
  obtain ⟨p, s, d, e, z, s', hs, rx, ry, hg, hf⟩ := h
  cases rx with
  | non => simp [gAdd] at hg
  | bl b => simp [gAdd] at hg
  | con v => simp [gAdd] at hg
  | int i =>
    cases ry <;> simp [gAdd] at hg
    · obtain ⟨rfl, rfl⟩ := hg
      exact .inl (.inl (.inl (.inr ⟨_, _, rfl, rfl, hf.now hs (.int _)⟩)))
    · obtain ⟨rfl, rfl⟩ := hg
      exact .inl (.inl (.inl (.inl ⟨_, _, rfl, rfl, hf.now hs (.int _)⟩)))
  | str i =>
    cases ry <;> simp [gAdd] at hg
    obtain ⟨hl, rfl, rfl⟩ := hg
    exact .inl (.inl (.inr ⟨_, _, rfl, rfl, hl, hf.now hs (.str _)⟩))
  | tup h r =>
    cases ry <;> simp [gAdd] at hg
    rename_i h2 r2
    obtain ⟨hl, rfl, rfl⟩ := hg
    refine .inl (.inr ⟨_, _, _, _, rfl, rfl, h, h2, by rw [← r.length, ← r2.length]; exact hl, fun e => ?_, fun _ e => ?_, fun _ _ q hq => ?_⟩)
    · subst e
      cases r
      exact hf.now hs (.tup h2 (by simpa using r2))
    · subst e
      cases r2
      exact hf.now hs (.tup h (by simpa using r))
    · exact hf.tup hs (r.append r2) hq
  | loc h =>
    cases ry <;> simp [gAdd] at hg
    rename_i n a m b h2
    split at hg
    · rename_i xs ys e1 e2
      simp at hg
      obtain ⟨hl, rfl, rfl⟩ := hg
      obtain ⟨a1, o1, q1, q2, q3⟩ := hs.mut e1
      obtain ⟨a2, o2, w1, w2, w3⟩ := hs.mut e2
      rw [h] at q1; cases q1
      rw [h2] at w1; cases w1
      cases q3 with
      | lst r1 =>
        cases w3 with
        | lst r2 => exact .inr ⟨_, _, _, _, rfl, rfl, q2, w2, by rw [← r1.length, ← r2.length]; exact hl, fun q hq => hf.lst hs (r1.append r2) hq⟩
    · cases hg
theorem op_subD : OpD X (binaryOp .Sub) gSub := by
  refine OpR.imp op_sub fun x y H Q h => ?_
  obtain ⟨p, s, d, e, z, s', hs, rx, ry, hg, hf⟩ := h
  cases rx <;> cases ry <;> simp [gSub] at hg
  obtain ⟨rfl, rfl⟩ := hg
  exact ⟨_, _, rfl, rfl, hf.now hs (.int _)⟩
theorem op_modD : OpD X (binaryOp .Mod) gMod := by
  refine OpR.imp op_mod fun x y H Q h => ?_
  obtain ⟨p, s, d, e, z, s', hs, rx, ry, hg, hf⟩ := h
  cases rx <;> cases ry <;> simp [gMod] at hg
  obtain ⟨hj, rfl, rfl⟩ := hg
  exact ⟨_, _, rfl, rfl, hj, hf.now hs (.int _)⟩
theorem op_fdivD : OpD X (binaryOp .FloorDiv) gFdiv := by
  refine OpR.imp op_fdiv fun x y H Q h => ?_
  obtain ⟨p, s, d, e, z, s', hs, rx, ry, hg, hf⟩ := h
  cases rx <;> cases ry <;> simp [gFdiv] at hg
  obtain ⟨hj, rfl, rfl⟩ := hg
  exact ⟨_, _, rfl, rfl, hj, hf.now hs (.int _)⟩
theorem op_powD : OpD X (binaryOp .Pow) gPow := by
  refine OpR.imp op_pow fun x y H Q h => ?_
  obtain ⟨p, s, d, e, z, s', hs, rx, ry, hg, hf⟩ := h
  cases rx <;> cases ry <;> simp [gPow] at hg
  obtain ⟨hj, rfl, rfl⟩ := hg
  exact ⟨_, _, rfl, rfl, hj, hf.now hs (.int _)⟩
theorem RDs.rep {K : PySem.W.Frag} {p : List Addr} {H : Hp} {ds : List D} {vs : List V} (r : RDs K p H ds vs) : ∀ n : Nat, RDs K p H (List.replicate n ds).flatten (List.replicate n vs).flatten
  | 0 => .nil
  | n + 1 => by simp only [List.replicate_succ, List.flatten_cons]; exact r.append (RDs.rep r n)
theorem op_mulD : OpD X (binaryOp .Mult) gMul := by
  refine OpR.imp (((op_mul.or op_rep).or op_repT).or op_rep01) fun x y H Q h => ?_
  obtain ⟨p, s, d, e, z, s', hs, rx, ry, hg, hf⟩ := h
  cases rx with
  | non => simp [gMul] at hg
  | bl b => simp [gMul] at hg
  | con v => simp [gMul] at hg
  | str i => simp [gMul] at hg
  | int i =>
    cases ry <;> simp only [gMul] at hg <;> try (cases hg; done)
    split at hg
    · rename_i hc
      cases hg
      exact .inl (.inl (.inl ⟨_, _, rfl, rfl, hc, hf.now hs (.int _)⟩))
    · cases hg
  | tup h r =>
    cases ry <;> simp only [gMul] at hg <;> try (cases hg; done)
    split at hg
    · rename_i hc
      cases hg
      have hl := r.length
      refine .inl (.inr ⟨_, _, _, rfl, rfl, h, ?_, hc.2.1, hc.2.2.1, by rw [← hl]; exact hc.2.2.2, fun q hq => hf.tup hs (r.rep _) hq⟩)
      rintro rfl
      cases r
      exact hc.1 rfl
    · split at hg
      · rename_i hc
        cases hg
        obtain ⟨hne, rfl⟩ := hc
        refine .inr ⟨_, _, rfl, h, ?_, .inl ⟨rfl, hf.now hs (.tup h r)⟩⟩
        rintro rfl
        cases r
        exact hne rfl
      · split at hg
        · rename_i hc
          cases hg
          obtain ⟨hne, rfl⟩ := hc
          refine .inr ⟨_, _, rfl, h, ?_, .inr ⟨rfl, fun q hq => hf.tup hs .nil hq⟩⟩
          rintro rfl
          cases r
          exact hne rfl
        · cases hg
  | loc h =>
    cases ry <;> simp only [gMul] at hg <;> try (cases hg; done)
    split at hg
    · rename_i xs e1
      split at hg
      · rename_i hc
        cases hg
        obtain ⟨a1, o1, q1, q2, q3⟩ := hs.mut e1
        rw [h] at q1; cases q1
        cases q3 with
        | lst r1 => exact .inl (.inl (.inr ⟨_, _, _, rfl, rfl, q2, hc.1, hc.2.1, by rw [← r1.length]; exact hc.2.2, fun q hq => hf.lst hs (r1.rep _) hq⟩))
      · cases hg
    · cases hg
end
end DL
end
/-! ### DL3 -/
section
set_option linter.all false
set_option maxRecDepth 100000
/-! DL3: comparisons, tests. -/
namespace DL
open PySem PySem.Spec L2
open PyProof.Rows hiding St

/-! ### data read deep -/
mutual
def D.pyW (g : Nat → Option PyData) : D → Option PyData
  | .non => some .none
  | .bl b => some (.bool b)
  | .int i => some (.int i)
  | .str x => some (.str x)
  | .tup ds => (D.pysW g ds).map .tuple
  | .loc n => g n
  | .con _ => none
def D.pysW (g : Nat → Option PyData) : List D → Option (List PyData)
  | [] => some []
  | d :: ds => match D.pyW g d, D.pysW g ds with
    | some a, some as => some (a :: as)
    | _, _ => none
end
def locPy (s : Sto) : Nat → Nat → Option PyData
  | 0, _ => none
  | k + 1, n => match s[n]? with
    | some (.lst ds) => (D.pysW (locPy s k) ds).map .list
    | _ => none
def D.py (s : Sto) (d : D) : Option PyData := D.pyW (locPy s 3) d

section
variable {K : PySem.W.Frag} {p : List Addr} {H : Hp} {s : Sto}
mutual
theorem dp_of {g : Nat → Option PyData} (hg : ∀ n a z, g n = some z → p[n]? = some a → Dp K H (.ref a) z) : ∀ (d : D) {v : V} {z : PyData}, RD K p H d v → D.pyW g d = some z → Dp K H v z
  | .non, _, _, .non, e => by simp only [D.pyW] at e; cases e; exact .non
  | .bl b, _, _, .bl _, e => by simp only [D.pyW] at e; cases e; exact .bl b
  | .int b, _, _, .int _, e => by simp only [D.pyW] at e; cases e; exact .int b
  | .str b, _, _, .str _, e => by simp only [D.pyW] at e; cases e; exact .str b
  | .tup ds, _, z, .tup h r, e => by
    simp only [D.pyW] at e
    cases q : D.pysW g ds with
    | none => rw [q] at e; cases e
    | some zs =>
      rw [q] at e
      cases e
      exact .tup h (dps_of hg ds r q)
  | .loc n, _, z, .loc h, e => by simp only [D.pyW] at e; exact hg n _ z e h
  | .con v, _, _, .con _, e => by simp only [D.pyW] at e; cases e
theorem dps_of {g : Nat → Option PyData} (hg : ∀ n a z, g n = some z → p[n]? = some a → Dp K H (.ref a) z) : ∀ (ds : List D) {vs : List V} {zs : List PyData}, RDs K p H ds vs → D.pysW g ds = some zs → DpAll K H vs zs
  | [], _, _, .nil, e => by simp only [D.pysW] at e; cases e; exact .nil
  | d :: ds, _, zs, .cons h r, e => by
    simp only [D.pysW] at e
    cases q : D.pyW g d with
    | none => rw [q] at e; cases e
    | some z =>
      cases q2 : D.pysW g ds with
      | none => rw [q, q2] at e; cases e
      | some zs' =>
        rw [q, q2] at e
        cases e
        exact .cons (dp_of hg d h q) (dps_of hg ds r q2)
end
theorem locPy_dp (hs : RS K p s H) : ∀ (k n : Nat) (a : Addr) (z : PyData), locPy s k n = some z → p[n]? = some a → Dp K H (.ref a) z
  | 0, _, _, _, e, _ => by simp [locPy] at e
  | k + 1, n, a, z, e, h => by
    simp only [locPy] at e
    split at e
    · rename_i ds e1
      obtain ⟨a1, o1, q1, q2, q3⟩ := hs.mut e1
      rw [h] at q1; cases q1
      cases q3 with
      | lst r =>
        cases q : D.pysW (locPy s k) ds with
        | none => rw [q] at e; cases e
        | some zs =>
          rw [q] at e
          cases e
          exact .lst (SqL.of q2) (dps_of (locPy_dp hs k) ds r q)
    · cases e
theorem py_dp (hs : RS K p s H) {d : D} {v : V} {z : PyData} (r : RD K p H d v) (e : d.py s = some z) : Dp K H v z := dp_of (locPy_dp hs 3) d r e
end

/-- == -/
def eqB (s : Sto) (d e : D) : Option Bool := match d, e with
  | .int i, .int j => some (decide (i = j))
  | .bl i, .bl j => some (decide (i = j))
  | .str i, .str j => some (decide (i = j))
  | .non, .non => some true
  | d, e => match d.py s, e.py s with
    | some a, some b => if SeqAt.shaped a = true ∧ SeqAt.shaped b = true then some (PyData.eqv a b) else none
    | _, _ => none
def gEq : G2 := fun d e s => (eqB s d e).map fun b => (.bl b, s)
def gNe : G2 := fun d e s => (eqB s d e).map fun b => (.bl (!b), s)
def gLt : G2
  | .int i, .int j, s => some (.bl (decide (i < j)), s)
  | _, _, _ => none
def gLe : G2
  | .int i, .int j, s => some (.bl (decide (i ≤ j)), s)
  | _, _, _ => none
def gGt : G2
  | .int i, .int j, s => some (.bl (decide (j < i)), s)
  | _, _, _ => none
def gGe : G2
  | .int i, .int j, s => some (.bl (decide (j ≤ i)), s)
  | _, _, _ => none
def isNon : D → Option Bool
  | .non => some true
  | _ => some false
def gIs : G2
  | .non, .non, s => some (.bl true, s)
  | .con _, .non, _ => none
  | _, .non, s => some (.bl false, s)
  | .bl a, .bl b, s => some (.bl (decide (a = b)), s)
  | _, _, _ => none
def gIsNot : G2
  | .non, .non, s => some (.bl false, s)
  | .con _, .non, _ => none
  | _, .non, s => some (.bl true, s)
  | .bl a, .bl b, s => some (.bl (!decide (a = b)), s)
  | _, _, _ => none
section
variable {X : Cx}
theorem eqB_rd {K : PySem.W.Frag} {p : List Addr} {H : Hp} {s : Sto} {d e : D} {x y : V} {b : Bool} (hs : RS K p s H) (rx : RD K p H d x) (ry : RD K p H e y) (h : eqB s d e = some b) :
    (scal x y = true ∧ b = decide (x = y)) ∨ ∃ u w, Dp K H x u ∧ Dp K H y w ∧ SeqAt.shaped u = true ∧ SeqAt.shaped w = true ∧ b = PyData.eqv u w := by
  have gen : (match d.py s, e.py s with | some a, some b => if SeqAt.shaped a = true ∧ SeqAt.shaped b = true then some (PyData.eqv a b) else none | _, _ => none) = some b →
      ∃ u w, Dp K H x u ∧ Dp K H y w ∧ SeqAt.shaped u = true ∧ SeqAt.shaped w = true ∧ b = PyData.eqv u w := fun h => by
    cases q1 : d.py s with
    | none => simp [q1] at h
    | some u =>
      cases q2 : e.py s with
      | none => simp [q1, q2] at h
      | some w =>
        simp only [q1, q2] at h
        split at h
        · rename_i hc
          cases h
          exact ⟨u, w, py_dp hs rx q1, py_dp hs ry q2, hc.1, hc.2, rfl⟩
        · cases h
  cases rx with
  | int i =>
    cases ry with
    | int j => simp only [eqB] at h; cases h; exact .inl ⟨rfl, by simp⟩
    | _ => exact .inr (gen h)
  | bl i =>
    cases ry with
    | bl j => simp only [eqB] at h; cases h; exact .inl ⟨rfl, by simp⟩
    | _ => exact .inr (gen h)
  | str i =>
    cases ry with
    | str j => simp only [eqB] at h; cases h; exact .inl ⟨rfl, by simp⟩
    | _ => exact .inr (gen h)
  | non =>
    cases ry with
    | non => simp only [eqB] at h; cases h; exact .inl ⟨rfl, by simp⟩
    | _ => exact .inr (gen h)
  | tup h1 r1 => cases ry <;> exact .inr (gen h)
  | loc h1 => cases ry <;> exact .inr (gen h)
  | con v => cases ry <;> exact .inr (gen h)
theorem op_eqDD (hu : X.A.units + 64 < cLine) : OpD X (compareOp .Eq) gEq := by
  refine OpR.imp (op_eq.or (op_eqD hu)) fun x y H Q h => ?_
  obtain ⟨p, s, d, e, z, s', hs, rx, ry, hg, hf⟩ := h
  simp only [gEq, Option.map_eq_some_iff] at hg
  obtain ⟨b, hb, hz⟩ := hg
  cases hz
  rcases eqB_rd hs rx ry hb with ⟨h1, rfl⟩ | ⟨u, w, h1, h2, h3, h4, rfl⟩
  · exact .inl ⟨h1, hf.now hs (.bl _)⟩
  · exact .inr ⟨u, w, h1, h2, h3, h4, hf.now hs (.bl _)⟩
theorem op_neDD (hu : X.A.units + 64 < cLine) : OpD X (compareOp .NotEq) gNe := by
  refine OpR.imp (op_ne.or (op_neD hu)) fun x y H Q h => ?_
  obtain ⟨p, s, d, e, z, s', hs, rx, ry, hg, hf⟩ := h
  simp only [gNe, Option.map_eq_some_iff] at hg
  obtain ⟨b, hb, hz⟩ := hg
  cases hz
  rcases eqB_rd hs rx ry hb with ⟨h1, rfl⟩ | ⟨u, w, h1, h2, h3, h4, rfl⟩
  · exact .inl ⟨h1, hf.now hs (.bl _)⟩
  · exact .inr ⟨u, w, h1, h2, h3, h4, hf.now hs (.bl _)⟩
theorem op_ltD : OpD X (compareOp .Lt) gLt := by
  refine OpR.imp op_lt fun x y H Q h => ?_
  obtain ⟨p, s, d, e, z, s', hs, rx, ry, hg, hf⟩ := h
  cases rx <;> cases ry <;> simp only [gLt] at hg <;> cases hg
  exact ⟨_, _, rfl, rfl, hf.now hs (.bl _)⟩
theorem op_leD : OpD X (compareOp .LtE) gLe := by
  refine OpR.imp op_le fun x y H Q h => ?_
  obtain ⟨p, s, d, e, z, s', hs, rx, ry, hg, hf⟩ := h
  cases rx <;> cases ry <;> simp only [gLe] at hg <;> cases hg
  exact ⟨_, _, rfl, rfl, hf.now hs (.bl _)⟩
theorem op_gtD : OpD X (compareOp .Gt) gGt := by
  refine OpR.imp op_gt fun x y H Q h => ?_
  obtain ⟨p, s, d, e, z, s', hs, rx, ry, hg, hf⟩ := h
  cases rx <;> cases ry <;> simp only [gGt] at hg <;> cases hg
  exact ⟨_, _, rfl, rfl, hf.now hs (.bl _)⟩
theorem op_geD : OpD X (compareOp .GtE) gGe := by
  refine OpR.imp op_ge fun x y H Q h => ?_
  obtain ⟨p, s, d, e, z, s', hs, rx, ry, hg, hf⟩ := h
  cases rx <;> cases ry <;> simp only [gGe] at hg <;> cases hg
  exact ⟨_, _, rfl, rfl, hf.now hs (.bl _)⟩
theorem op_isD : OpD X (compareOp .Is) gIs := by
  refine OpR.imp (op_isN.or op_is_bl) fun x y H Q h => ?_
  obtain ⟨p, s, d, e, z, s', hs, rx, ry, hg, hf⟩ := h
  cases ry with
  | non =>
    cases rx <;> simp only [gIs] at hg <;> cases hg
    all_goals exact .inl ⟨rfl, hf.now hs (by simpa using RD.bl _)⟩
  | bl b =>
    cases rx <;> simp only [gIs] at hg <;> cases hg
    exact .inr ⟨_, _, rfl, rfl, hf.now hs (.bl _)⟩
  | _ => cases rx <;> simp only [gIs] at hg <;> cases hg
theorem op_isNotD : OpD X (compareOp .IsNot) gIsNot := by
  refine OpR.imp (op_notN.or op_isnot_bl) fun x y H Q h => ?_
  obtain ⟨p, s, d, e, z, s', hs, rx, ry, hg, hf⟩ := h
  cases ry with
  | non =>
    cases rx <;> simp only [gIsNot] at hg <;> cases hg
    all_goals exact .inl ⟨rfl, hf.now hs (by simpa using RD.bl _)⟩
  | bl b =>
    cases rx <;> simp only [gIsNot] at hg <;> cases hg
    exact .inr ⟨_, _, rfl, rfl, hf.now hs (.bl _)⟩
  | _ => cases rx <;> simp only [gIsNot] at hg <;> cases hg
end

/-! ### chains: a < b <= c -/
def mChain (g g' : G2) (m n o : ME) : ME := fun r s => (m r s).bind fun d s1 => (n r s1).bind fun e s2 => match g d e s2 with
  | some (.bl true, s3) => (o r s3).bind fun f s4 => R.of (g' e f s4)
  | some (.bl false, s3) => .ok (.bl false) s3
  | _ => .bad
section
variable {X : Cx} {W : WX} {pos : Pos} {a b c : Expr} {m n o : ME} {g g' : G2}
theorem de_chain {op op' : CmpOp} (ho : OpD X (compareOp op) g) (ho' : OpD X (compareOp op') g') (ha : DE X W a m) (hb : DE X W b n) (hc : DE X W c o) (hm : lastMarks [op, op'] [b, c] = false := by with_unfolding_all rfl) :
    DE X W (.Compare a [op, op'] [b, c] pos) (mChain g g' m n o) := PE.imp (pe_chain ho ho' ha hb hc hm) fun t H Q ⟨p, r, s, he, hs, q⟩ => by
  refine tE.step he hs q fun p1 H1 d v s1 e1 r1 he1 rd q1 => ?_
  refine tE.step he1 r1 q1 fun p2 H2 e u s2 e2 r2 he2 rd2 q2 => ?_
  split at q2
  · rename_i s3 hg
    refine ⟨p2, s2, d, e, .bl true, s3, r2, rd.mono e2, rd2, hg, fun p3 H3 v3 e3 r3 rd3 => ?_⟩
    cases rd3
    refine ⟨true, rfl, ?_⟩
    rw [if_pos rfl]
    refine tE.step (he2.mono e3) r3 (pR.mono e3 q2) fun p4 H4 f w s4 e4 r4 he4 rd4 q4 => ?_
    obtain ⟨z, s', hz, hf⟩ := pR.fin q4
    exact ⟨p4, s4, e, f, z, s', r4, (rd2.mono e3).mono e4, rd4, hz, hf⟩
  · rename_i s3 hg
    refine ⟨p2, s2, d, e, .bl false, s3, r2, rd.mono e2, rd2, hg, fun p3 H3 v3 e3 r3 rd3 => ?_⟩
    cases rd3
    refine ⟨false, rfl, ?_⟩
    rw [if_neg Bool.false_ne_true]
    exact q2 p3 H3 e3 r3 _ (.bl false)
  · exact q2.elim
end

/-! ### tests, and, or, not, if-else -/
def asB (m : ME) : MT := fun r s => (m r s).bind fun d s1 => match d with
  | .bl b => .ok b s1
  | _ => .bad
def ofB (m : MT) : ME := fun r s => (m r s).bind fun b s1 => .ok (.bl b) s1
/-- any value as a test -/
def truB (s : Sto) : D → Option Bool
  | .non => some false
  | .bl b => some b
  | .int i => some (i != 0)
  | .str x => if x.length ≤ sizeLine then some ((x.length : Int) != 0) else none
  | .tup ds => some (!ds.isEmpty)
  | .loc n => match s[n]? with
    | some (.lst ds) => some (!ds.isEmpty)
    | some (.dct ds) => some (!ds.isEmpty)
    | _ => none
  | .con _ => none
def asT (m : ME) : MT := fun r s => (m r s).bind fun d s1 => match truB s1 d with
  | some b => .ok b s1
  | none => .bad
def mAnd (m n : MT) : MT := fun r s => (m r s).bind fun b s1 => match b with
  | true => n r s1
  | false => .ok false s1
def mOr (m n : MT) : MT := fun r s => (m r s).bind fun b s1 => match b with
  | true => .ok true s1
  | false => n r s1
def mNot (m : MT) : MT := fun r s => (m r s).bind fun b s1 => .ok (!b) s1
def mIfE (c : MT) (m n : ME) : ME := fun r s => (c r s).bind fun b s1 => match b with
  | true => m r s1
  | false => n r s1
section
variable {K : PySem.W.Frag} {W : WX} {t : L2.St} {H : Hp}
theorem tT.step {α : Type} {m : MT} {f : Bool → Sto → R α} {p : List Addr} {r : Env} {s : Sto} {k : List Addr → Hp → α → Sto → Prop} {Q1 : Bool → Hp → Prop} (he : RE K p H r t) (hs : RS K p s H)
    (h : pR K W t p H ((m r s).bind f) k)
    (g : ∀ p1 H1 b s1, Ex p H p1 H1 → RS K p1 s1 H1 → RE K p1 H1 r t → pR K W t p1 H1 (f b s1) k → Q1 b H1) : tT K W m t H Q1 :=
  ⟨p, r, s, he, hs, (pR.bind h).imp fun p1 H1 b s1 e1 r1 q => g p1 H1 b s1 e1 r1 (he.mono e1) q⟩
theorem tE.stepK {α : Type} {m : ME} {f : D → Sto → R α} {p : List Addr} {r : Env} {s : Sto} {k : List Addr → Hp → α → Sto → Prop} {Q1 : VK} (he : RE K p H r t) (hs : RS K p s H)
    (h : pR K W t p H ((m r s).bind f) k)
    (g : ∀ p1 H1 d v s1, Ex p H p1 H1 → RS K p1 s1 H1 → RE K p1 H1 r t → RD K p1 H1 d v → pR K W t p1 H1 (f d s1) k → Q1 v H1) : tE K W m t H Q1 :=
  ⟨p, r, s, he, hs, (pR.bind h).imp fun p1 H1 d s1 e1 r1 q v rv => g p1 H1 d v s1 e1 r1 (he.mono e1) rv q⟩
end
section
variable {X : Cx} {W : WX} {pos : Pos} {a b c : Expr} {m n : ME} {u w : MT} {rest : List Expr}
/-- an expression that gives a bool -/
theorem dt_val (ha : DE X W a m) (he : ∀ whole, isTrue a X.env whole = (do let v ← whole; standAt a.pos; holding [v] (truthy v)) := by intro _; rfl) : DT X W a (asB m) := PT.imp (pt_val ha he) fun t H Q ⟨p, r, s, he, hs, q⟩ => by
  refine tE.stepK he hs q fun p1 H1 d v s1 e1 r1 he1 rd q1 => ?_
  cases rd <;> try (exact (show False from q1).elim)
  exact ⟨_, rfl, q1 p1 H1 .refl r1⟩
theorem tru_D {K : PySem.W.Frag} {p : List Addr} {s : Sto} {d : D} {v : V} {k : Bool} (hs : RS K p s H) (rd : RD K p H d v) (h : truB s d = some k) : TruV K v H k := by
  cases rd with
  | non => simp [truB] at h; simp [TruV, h]
  | bl b => simp [truB] at h; simp [TruV, h]
  | int i => simp only [truB] at h; cases h; simp [TruV]
  | str x => simp only [truB] at h; split at h <;> cases h; rename_i hl; exact ⟨hl, rfl⟩
  | tup h1 r1 =>
    simp only [truB] at h; cases h
    refine .inr (.inl ⟨_, h1, ?_⟩)
    cases r1 <;> rfl
  | con v => simp [truB] at h
  | loc h1 =>
    simp only [truB] at h
    split at h
    · rename_i ds e1
      obtain ⟨a1, o1, q1, q2, q3⟩ := hs.mut e1
      rw [h1] at q1; cases q1
      cases h
      cases q3 with
      | lst r => exact .inl ⟨_, SqL.of q2, by cases r <;> rfl⟩
    · rename_i ds e1
      obtain ⟨a1, o1, q1, q2, q3⟩ := hs.mut e1
      rw [h1] at q1; cases q1
      cases h
      cases q3 with
      | dct r => exact .inr (.inr ⟨_, q2, by cases r <;> rfl⟩)
    · cases h
theorem dt_tru (ha : DE X W a m) (he : ∀ whole, isTrue a X.env whole = (do let v ← whole; standAt a.pos; holding [v] (truthy v)) := by intro _; rfl) : DT X W a (asT m) := PT.imp (pt_truth ha he) fun t H Q ⟨p, r, s, he, hs, q⟩ => by
  refine tE.stepK he hs q fun p1 H1 d v s1 e1 r1 he1 rd q1 => ?_
  split at q1
  · rename_i k hk
    exact ⟨k, tru_D r1 rd hk, q1 p1 H1 .refl r1⟩
  · exact q1.elim
theorem dt_not (ha : DT X W a u) : DT X W (.UnaryOp .Not a pos) (mNot u) := PT.imp (pt_not ha) fun t H Q ⟨p, r, s, he, hs, q⟩ =>
  tT.step he hs q fun p1 H1 b s1 e1 r1 he1 q1 => q1 p1 H1 .refl r1
abbrev DW (X : Cx) (W : WX) (e : Expr) (m : MT) : Prop := PW X e (tT X.K W m)
theorem PW.imp {e : Expr} {t t' : TT} (h : PW X e t) (f : ∀ σ H Q, t' σ H Q → t σ H Q) : PW X e t' := ⟨fun wh pins s σ H Q I q => h.run wh pins s σ H Q I (f σ H Q q)⟩
theorem dw_and1 (ha : DT X W a u) : DW X W (.BoolOp .And [a] pos) u := pw_and1 ha
theorem dw_or1 (ha : DT X W a u) : DW X W (.BoolOp .Or [a] pos) u := pw_or1 ha
theorem tAnd_of {t : L2.St} {H : Hp} {Q : Bool → Hp → Prop} (q : tT X.K W (mAnd u w) t H Q) : tAnd (tT X.K W u) (tT X.K W w) t H Q := by
  obtain ⟨p, r, s, he, hs, q⟩ := q
  refine tT.step he hs q fun p1 H1 b s1 e1 r1 he1 q1 => ?_
  cases b with
  | true => rw [if_pos rfl]; exact ⟨p1, r, s1, he1, r1, q1⟩
  | false => rw [if_neg Bool.false_ne_true]; exact q1 p1 H1 .refl r1
theorem tOr_of {t : L2.St} {H : Hp} {Q : Bool → Hp → Prop} (q : tT X.K W (mOr u w) t H Q) : tOr (tT X.K W u) (tT X.K W w) t H Q := by
  obtain ⟨p, r, s, he, hs, q⟩ := q
  refine tT.step he hs q fun p1 H1 b s1 e1 r1 he1 q1 => ?_
  cases b with
  | true => rw [if_pos rfl]; exact q1 p1 H1 .refl r1
  | false => rw [if_neg Bool.false_ne_true]; exact ⟨p1, r, s1, he1, r1, q1⟩
theorem dw_and (ha : DT X W a u) (hb : DW X W (.BoolOp .And (b :: rest) pos) w) : DW X W (.BoolOp .And (a :: b :: rest) pos) (mAnd u w) := PW.imp (pw_and ha hb) fun _ _ _ q => tAnd_of q
theorem dw_or (ha : DT X W a u) (hb : DW X W (.BoolOp .Or (b :: rest) pos) w) : DW X W (.BoolOp .Or (a :: b :: rest) pos) (mOr u w) := PW.imp (pw_or ha hb) fun _ _ _ q => tOr_of q
/-- as values, bools -/
theorem de_and (ha : DE X W a m) (hb : DE X W (.BoolOp .And (b :: rest) pos) n) : DE X W (.BoolOp .And (a :: b :: rest) pos) (mIfE (asB m) n (mC (.bl false))) := PE.imp (pe_and ha hb) fun t H Q ⟨p, r, s, he, hs, q⟩ => by
  have q' : pR X.K W t p H ((m r s).bind fun d s1 => ((match d with | .bl b => R.ok b s1 | _ => R.bad) : R Bool).bind fun b s1 => match b with | true => n r s1 | false => mC (.bl false) r s1) fun p' H' d _ => ∀ v, RD X.K p' H' d v → Q v H' := by
    have e : mIfE (asB m) n (mC (.bl false)) r s = (m r s).bind fun d s1 => ((match d with | .bl b => R.ok b s1 | _ => R.bad) : R Bool).bind fun b s1 => match b with | true => n r s1 | false => mC (.bl false) r s1 := by
      simp only [mIfE, asB]
      cases m r s <;> rfl
    rw [← e]; exact q
  refine tE.stepK he hs q' fun p1 H1 d v s1 e1 r1 he1 rd q1 => ?_
  cases rd <;> try (exact (show False from q1).elim)
  rename_i b
  refine ⟨b, rfl, ?_⟩
  cases b with
  | true => rw [if_pos rfl]; exact ⟨p1, r, s1, he1, r1, q1⟩
  | false => rw [if_neg Bool.false_ne_true]; exact q1 p1 H1 .refl r1 _ (.bl false)
theorem de_or (ha : DE X W a m) (hb : DE X W (.BoolOp .Or (b :: rest) pos) n) : DE X W (.BoolOp .Or (a :: b :: rest) pos) (mIfE (asB m) (mC (.bl true)) n) := PE.imp (pe_or ha hb) fun t H Q ⟨p, r, s, he, hs, q⟩ => by
  have q' : pR X.K W t p H ((m r s).bind fun d s1 => ((match d with | .bl b => R.ok b s1 | _ => R.bad) : R Bool).bind fun b s1 => match b with | true => mC (.bl true) r s1 | false => n r s1) fun p' H' d _ => ∀ v, RD X.K p' H' d v → Q v H' := by
    have e : mIfE (asB m) (mC (.bl true)) n r s = (m r s).bind fun d s1 => ((match d with | .bl b => R.ok b s1 | _ => R.bad) : R Bool).bind fun b s1 => match b with | true => mC (.bl true) r s1 | false => n r s1 := by
      simp only [mIfE, asB]
      cases m r s <;> rfl
    rw [← e]; exact q
  refine tE.stepK he hs q' fun p1 H1 d v s1 e1 r1 he1 rd q1 => ?_
  cases rd <;> try (exact (show False from q1).elim)
  rename_i b
  refine ⟨b, rfl, ?_⟩
  cases b with
  | true => rw [if_pos rfl]; exact q1 p1 H1 .refl r1 _ (.bl true)
  | false => rw [if_neg Bool.false_ne_true]; exact ⟨p1, r, s1, he1, r1, q1⟩
theorem de_one {op : PySem.BoolOp} (h : DE X W a m) : DE X W (.BoolOp op [a] pos) m := pe_one h
theorem de_not (ha : DE X W a m) : DE X W (.UnaryOp .Not a pos) (ofB (mNot (asB m))) := PE.imp (pe_not ha) fun t H Q ⟨p, r, s, he, hs, q⟩ => by
  have q' : pR X.K W t p H ((m r s).bind fun d s1 => (match d with | .bl b => R.ok (D.bl (!b)) s1 | _ => R.bad)) fun p' H' d _ => ∀ v, RD X.K p' H' d v → Q v H' := by
    have e : ofB (mNot (asB m)) r s = (m r s).bind fun d s1 => (match d with | .bl b => R.ok (D.bl (!b)) s1 | _ => R.bad) := by
      simp only [ofB, mNot, asB]
      cases m r s with
      | ok d s1 => cases d <;> rfl
      | exc _ _ => rfl
      | bad => rfl
    rw [← e]; exact q
  refine tE.stepK he hs q' fun p1 H1 d v s1 e1 r1 he1 rd q1 => ?_
  cases rd <;> try (exact (show False from q1).elim)
  exact ⟨_, rfl, q1 p1 H1 .refl r1 _ (.bl _)⟩
theorem de_ifExp (hc : DT X W c u) (ha : DE X W a m) (hb : DE X W b n) : DE X W (.IfExp c a b pos) (mIfE u m n) := PE.imp (pe_ifExp hc ha hb) fun t H Q ⟨p, r, s, he, hs, q⟩ => by
  refine tT.step he hs q fun p1 H1 b s1 e1 r1 he1 q1 => ?_
  cases b with
  | true => rw [if_pos rfl]; exact ⟨p1, r, s1, he1, r1, q1⟩
  | false => rw [if_neg Bool.false_ne_true]; exact ⟨p1, r, s1, he1, r1, q1⟩
end
/-! ### one place -/
def mNeg (m : ME) : ME := fun r s => (m r s).bind fun d s1 => match d with
  | .int i => .ok (.int (-i)) s1
  | _ => .bad
theorem de_neg {X : Cx} {W : WX} {pos : Pos} {a : Expr} {m : ME} (ha : DE X W a m) : DE X W (.UnaryOp .USub a pos) (mNeg m) := PE.imp (pe_un un_neg ha) fun t H Q ⟨p, r, s, he, hs, q⟩ => by
  refine tE.stepK he hs q fun p1 H1 d v s1 e1 r1 he1 rd q1 => ?_
  cases rd <;> try (exact (show False from q1).elim)
  exact ⟨_, rfl, q1 p1 H1 .refl r1 _ (.int _)⟩
end DL
end
/-! ### DL4 -/
section
set_option linter.all false
set_option maxRecDepth 100000
/-! DL4: argument lists, displays, calls of built-ins and defs, attributes, subscripts. -/
namespace DL
open PySem PySem.Spec L2
open PyProof.Rows hiding St

/-! ### lists of expressions -/
def mNil : MA := fun _ s => .ok [] s
def mCons (m : ME) (ma : MA) : MA := fun r s => (m r s).bind fun d s1 => (ma r s1).bind fun ds s2 => .ok (d :: ds) s2
section
variable {X : Cx} {W : WX} {pos : Pos} {e : Expr} {es : List Expr} {m : ME} {ma : MA}
theorem da_nil : DA X W [] mNil := PA.imp pa_nil fun t H Q ⟨p, r, s, he, hs, q⟩ => q p H .refl hs [] .nil
theorem da_cons (ha : DE X W e m) (hr : DA X W es ma) (hs : starEach (e :: es) X.env = (false, eval e X.env) :: starEach es X.env := by rfl) : DA X W (e :: es) (mCons m ma) := PA.imp (pa_cons ha hr hs) fun t H Q ⟨p, r, s, he, hs, q⟩ => by
  refine tE.stepK he hs q fun p1 H1 d v s1 e1 r1 he1 rd q1 => ?_
  refine ⟨p1, r, s1, he1, r1, (pR.bind q1).imp fun p2 H2 ds s2 e2 r2 q2 vs rds => ?_⟩
  exact q2 p2 H2 .refl r2 _ (.cons (rd.mono e2) rds)
/-- a tuple -/
def mTup (ma : MA) : ME := fun r s => (ma r s).bind fun ds s1 => if ds.length ≤ sizeLine then .ok (.tup ds) s1 else .bad
/-- a list's items -/
def mLst (ma : MA) : MA := fun r s => (ma r s).bind fun ds s1 => if ds.length ≤ sizeLine then .ok ds s1 else .bad
/-- a list just made goes into the store -/
def mNew (ma : MA) : ME := fun r s => (ma r s).bind fun ds s1 => .ok (.loc s1.length) (s1 ++ [.lst ds])
theorem de_tup {x1 : Nat} (h : DA X W es ma) : DE X W (.Tuple es x1 pos) (mTup ma) := PE.imp (pe_tup h) fun t H Q ⟨p, r, s, he, hs, q⟩ => by
  refine ⟨p, r, s, he, hs, (pR.bind q).imp fun p1 H1 ds s1 e1 r1 q1 vs rds => ?_⟩
  split at q1
  · rename_i hl
    refine ⟨by rw [← rds.length]; exact hl, fun a ha => ?_⟩
    exact q1 p1 _ (ex_new0 ha) (r1.beside ha) _ (.tup (SqT.of upd_same) (rds.mono (ex_new0 ha)))
  · exact q1.elim
theorem dl_lst (h : DA X W es ma) : DLs X W (.List es pos) (mLst ma) := PE.imp (pe_lst h) fun t H Q ⟨p, r, s, he, hs, q⟩ => by
  refine ⟨p, r, s, he, hs, (pR.bind q).imp fun p1 H1 ds s1 e1 r1 q1 vs rds => ?_⟩
  split at q1
  · rename_i hl
    refine ⟨by rw [← rds.length]; exact hl, fun a ha => ?_⟩
    exact q1 p1 H1 .refl r1 a vs ha rds
  · exact q1.elim
theorem de_new (h : DLs X W e ma) : DE X W e (mNew ma) := PE.imp h fun t H Q ⟨p, r, s, he, hs, q⟩ => by
  refine ⟨p, r, s, he, hs, (pR.bind q).imp fun p1 H1 ds s1 e1 r1 q1 a vs ha rds => ?_⟩
  exact q1 (p1 ++ [a]) _ (ex_new ha) (r1.push ha (.lst (rds.mono (ex_new ha)))) _ (.loc (by rw [← r1.len]; simp))
/-! ### built-in functions -/
def mCallB (g : GF) (ma : MA) : ME := fun r s => (ma r s).bind fun ds s1 => R.of (g ds s1)
theorem tCB_of {g : GF} {t : L2.St} {H : Hp} {Q : VK} (q : tE X.K W (mCallB g ma) t H Q) :
    tCB (fun vs H Q => ∃ p s ds z s', RS X.K p s H ∧ RDs X.K p H ds vs ∧ g ds s = some (z, s') ∧ Fin X.K p H z s' Q) (tA X.K W ma) t H Q := by
  obtain ⟨p, r, s, he, hs, q⟩ := q
  refine ⟨p, r, s, he, hs, (pR.bind q).imp fun p1 H1 ds s1 e1 r1 q1 vs rds => ?_⟩
  obtain ⟨z, s', hz, hf⟩ := pR.fin q1
  exact ⟨p1, s1, ds, z, s', r1, rds, hz, hf⟩
theorem de_callB {x : Str} {id : String} {g : GF} {p : Pos} (hc : CallD X (.builtin id) g) (hg : Gl X x) (hm : X.mg x = none) (hv : bootBuiltins x = some (.builtin id)) (ha : DA X W (e :: es) ma) (hn : x ≠ "__name__" := by decide) (hdb : (x == ("__debug__" : Str)) = false := by decide)
    (he : starEach (e :: es) X.env = (false, eval e X.env) :: starEach es X.env := by rfl) (hpl : (backTo pos (starEach es X.env)).any (·.1) = false := by rfl) : DE X W (.Call (.Name x p) (e :: es) [] pos) (mCallB g ma) :=
  PE.imp (pe_callB hc hg hm hv ha hn hdb he hpl) fun _ _ _ q => tCB_of q
theorem de_callTy {x : Str} {T : String} {g : GF} {p : Pos} (hc : CallD X (.type T) g) (hg : Gl X x) (hm : X.mg x = none) (hv : bootBuiltins x = some (.type T)) (ha : DA X W (e :: es) ma) (hn : x ≠ "__name__" := by decide) (hdb : (x == ("__debug__" : Str)) = false := by decide)
    (he : starEach (e :: es) X.env = (false, eval e X.env) :: starEach es X.env := by rfl) (hpl : (backTo pos (starEach es X.env)).any (·.1) = false := by rfl) : DE X W (.Call (.Name x p) (e :: es) [] pos) (mCallB g ma) :=
  PE.imp (pe_callTy hc hg hm hv ha hn hdb he hpl) fun _ _ _ q => tCB_of q
end

/-! ### built-ins over the items of a list -/
/-- f(l) by l's items -/
def CallLD (X : Cx) (f : Value) (g : List D → Option D) : Prop := CallR X f (fun vs H Q => ∃ a us p s ds z, vs = [.ref a] ∧ SqL X.K H a us ∧ RS X.K p s H ∧ RDs X.K p H ds us ∧ g ds = some z ∧ Fin X.K p H z s Q)
/-- f(t) by a tuple's -/
def CallTD (X : Cx) (f : Value) (g : List D → Option D) : Prop := CallR X f (fun vs H Q => ∃ a us p s ds z, vs = [.ref a] ∧ SqT X.K H a us ∧ RS X.K p s H ∧ RDs X.K p H ds us ∧ g ds = some z ∧ Fin X.K p H z s Q)
def itL (s : Sto) : D → Option (List D)
  | .loc n => match s[n]? with
    | some (.lst ds) => some ds
    | _ => none
  | _ => none
def itT : D → Option (List D)
  | .tup ds => some ds
  | _ => none
def itS (s : Sto) (d : D) : Option (List D) := match d with
  | .tup ds => some ds
  | d => itL s d
/-- over a list of the store; over a tuple; over either -/
def gL (g : List D → Option D) : GF := fun ds s => match ds with
  | [d] => (itL s d).bind fun xs => (g xs).map fun z => (z, s)
  | _ => none
def gT (g : List D → Option D) : GF := fun ds s => match ds with
  | [d] => (itT d).bind fun xs => (g xs).map fun z => (z, s)
  | _ => none
def gS (g : List D → Option D) : GF := fun ds s => match ds with
  | [d] => (itS s d).bind fun xs => (g xs).map fun z => (z, s)
  | _ => none
section
variable {X : Cx} {W : WX} {pos : Pos} {e : Expr} {f : Value} {g : List D → Option D} {ma : MA}
theorem itL_rd {K : PySem.W.Frag} {p : List Addr} {H : Hp} {s : Sto} {d : D} {v : V} {xs : List D} (hs : RS K p s H) (r : RD K p H d v) (h : itL s d = some xs) : ∃ a us, v = .ref a ∧ H a = some (.lst us) ∧ RDs K p H xs us := by
  cases r <;> simp only [itL] at h <;> try (cases h; done)
  rename_i n a h1
  split at h
  · rename_i ds e1
    cases h
    obtain ⟨a1, o1, q1, q2, q3⟩ := hs.mut e1
    rw [h1] at q1; cases q1
    cases q3 with
    | lst r => exact ⟨a, _, rfl, q2, r⟩
  · cases h
theorem itT_rd {K : PySem.W.Frag} {p : List Addr} {H : Hp} {d : D} {v : V} {xs : List D} (r : RD K p H d v) (h : itT d = some xs) : ∃ a us, v = .ref a ∧ SqT K H a us ∧ RDs K p H xs us := by
  cases r <;> simp only [itT] at h <;> try (cases h; done)
  rename_i h1 r1
  cases h
  exact ⟨_, _, rfl, h1, r1⟩
theorem CallLD.d (h : CallLD X f g) : CallD X f (gL g) := CallR.imp h fun vs H Q ⟨p, s, ds, z, s', hs, rds, hg, hf⟩ => by
  cases rds with
  | nil => simp [gL] at hg
  | cons rd rr =>
    cases rr with
    | cons _ _ => simp [gL] at hg
    | nil =>
      simp only [gL, Option.bind_eq_some_iff, Option.map_eq_some_iff] at hg
      obtain ⟨xs, h1, z1, h2, h3⟩ := hg
      cases h3
      obtain ⟨a, us, rfl, h4, h5⟩ := itL_rd hs rd h1
      exact ⟨a, us, p, s, xs, z, rfl, SqL.of h4, hs, h5, h2, hf⟩
theorem CallTD.d (h : CallTD X f g) : CallD X f (gT g) := CallR.imp h fun vs H Q ⟨p, s, ds, z, s', hs, rds, hg, hf⟩ => by
  cases rds with
  | nil => simp [gT] at hg
  | cons rd rr =>
    cases rr with
    | cons _ _ => simp [gT] at hg
    | nil =>
      simp only [gT, Option.bind_eq_some_iff, Option.map_eq_some_iff] at hg
      obtain ⟨xs, h1, z1, h2, h3⟩ := hg
      cases h3
      obtain ⟨a, us, rfl, h4, h5⟩ := itT_rd rd h1
      exact ⟨a, us, p, s, xs, z, rfl, h4, hs, h5, h2, hf⟩
theorem CallLD.both (h : CallLD X f g) (h' : CallTD X f g) : CallD X f (gS g) := CallR.imp (h.d.or h'.d) fun vs H Q ⟨p, s, ds, z, s', hs, rds, hg, hf⟩ => by
  cases rds with
  | nil => simp [gS] at hg
  | cons rd rr =>
    cases rr with
    | cons _ _ => simp [gS] at hg
    | nil =>
      simp only [gS, Option.bind_eq_some_iff, Option.map_eq_some_iff] at hg
      obtain ⟨xs, h1, z1, h2, h3⟩ := hg
      cases h3
      cases rd with
      | tup ht rt =>
        simp only [itS] at h1
        exact .inr ⟨p, s, _, z, s, hs, .cons (.tup ht rt) .nil, by simp [gT, itT]; cases h1; exact h2, hf⟩
      | loc hl => exact .inl ⟨p, s, _, z, s, hs, .cons (.loc hl) .nil, by simp only [itS] at h1; simp [gL, h1, h2], hf⟩
      | non => simp [itS, itL] at h1
      | bl => simp [itS, itL] at h1
      | int => simp [itS, itL] at h1
      | str => simp [itS, itL] at h1
      | con => simp [itS, itL] at h1
/-- f([..]), the list just made and forgotten -/
def mCallF (g : List D → Option D) (ma : MA) : ME := fun r s => (ma r s).bind fun ds s1 => match g ds with
  | some z => .ok z s1
  | none => .bad
theorem tCF_of {t : L2.St} {H : Hp} {Q : VK} (q : tE X.K W (mCallF g ma) t H Q) :
    tCB (fun vs H Q => ∃ a us p s ds z, vs = [.ref a] ∧ SqL X.K H a us ∧ RS X.K p s H ∧ RDs X.K p H ds us ∧ g ds = some z ∧ Fin X.K p H z s Q) (tCons (tL X.K W ma) tNil) t H Q := by
  obtain ⟨p, r, s, he, hs, q⟩ := q
  refine ⟨p, r, s, he, hs, (pR.bind q).imp fun p1 H1 ds s1 e1 r1 q1 a vs ha rds => ?_⟩
  split at q1
  · rename_i z hz
    exact ⟨a, vs, p1, s1, ds, z, rfl, SqL.of upd_same, r1.beside ha, rds.mono (ex_new0 ha), hz, fun p' H' v e r rd => q1 p' H' ((ex_new0 ha).trans e) r v rd⟩
  · exact q1.elim
theorem de_callBF {x : Str} {id : String} {p : Pos} (hc : CallLD X (.builtin id) g) (hg : Gl X x) (hm : X.mg x = none) (hv : bootBuiltins x = some (.builtin id)) (ha : DLs X W e ma) (hn : x ≠ "__name__" := by decide) (hdb : (x == ("__debug__" : Str)) = false := by decide)
    (he : starEach (e :: []) X.env = (false, eval e X.env) :: starEach [] X.env := by rfl) (hpl : (backTo pos (starEach [] X.env)).any (·.1) = false := by rfl) : DE X W (.Call (.Name x p) [e] [] pos) (mCallF g ma) :=
  PE.imp (pe_callB hc hg hm hv (pa_cons ha pa_nil he) hn hdb he hpl) fun _ _ _ q => tCF_of q
theorem de_callTyF {x : Str} {T : String} {p : Pos} (hc : CallLD X (.type T) g) (hg : Gl X x) (hm : X.mg x = none) (hv : bootBuiltins x = some (.type T)) (ha : DLs X W e ma) (hn : x ≠ "__name__" := by decide) (hdb : (x == ("__debug__" : Str)) = false := by decide)
    (he : starEach (e :: []) X.env = (false, eval e X.env) :: starEach [] X.env := by rfl) (hpl : (backTo pos (starEach [] X.env)).any (·.1) = false := by rfl) : DE X W (.Call (.Name x p) [e] [] pos) (mCallF g ma) :=
  PE.imp (pe_callTy hc hg hm hv (pa_cons ha pa_nil he) hn hdb he hpl) fun _ _ _ q => tCF_of q
end

/-! ### the built-ins -/
def boolsD : List D → Option (List Bool)
  | [] => some []
  | .bl b :: ds => (boolsD ds).map (b :: ·)
  | _ :: _ => none
def intsD : List D → Option (List Int)
  | [] => some []
  | .int b :: ds => (intsD ds).map (b :: ·)
  | _ :: _ => none
theorem boolsD_eq : ∀ {ds : List D} {bs : List Bool}, boolsD ds = some bs → ds = bs.map .bl
  | [], _, e => by simp only [boolsD] at e; cases e; rfl
  | .bl b :: ds, bs, e => by
    simp only [boolsD, Option.map_eq_some_iff] at e
    obtain ⟨bs', h, rfl⟩ := e
    rw [boolsD_eq h]; rfl
  | .non :: _, _, e => by simp [boolsD] at e
  | .int _ :: _, _, e => by simp [boolsD] at e
  | .str _ :: _, _, e => by simp [boolsD] at e
  | .tup _ :: _, _, e => by simp [boolsD] at e
  | .loc _ :: _, _, e => by simp [boolsD] at e
  | .con _ :: _, _, e => by simp [boolsD] at e
theorem intsD_eq : ∀ {ds : List D} {bs : List Int}, intsD ds = some bs → ds = bs.map .int
  | [], _, e => by simp only [intsD] at e; cases e; rfl
  | .int b :: ds, bs, e => by
    simp only [intsD, Option.map_eq_some_iff] at e
    obtain ⟨bs', h, rfl⟩ := e
    rw [intsD_eq h]; rfl
  | .non :: _, _, e => by simp [intsD] at e
  | .bl _ :: _, _, e => by simp [intsD] at e
  | .str _ :: _, _, e => by simp [intsD] at e
  | .tup _ :: _, _, e => by simp [intsD] at e
  | .loc _ :: _, _, e => by simp [intsD] at e
  | .con _ :: _, _, e => by simp [intsD] at e
@[simp] theorem boolsD_map : ∀ bs : List Bool, boolsD (bs.map .bl) = some bs
  | [] => rfl
  | b :: bs => by simp [boolsD, boolsD_map bs]
@[simp] theorem intsD_map : ∀ bs : List Int, intsD (bs.map .int) = some bs
  | [] => rfl
  | b :: bs => by simp [intsD, intsD_map bs]
def gAll (ds : List D) : Option D := (boolsD ds).map fun bs => .bl (bs.all id)
def gAny (ds : List D) : Option D := (boolsD ds).map fun bs => .bl (bs.any id)
def gSum (ds : List D) : Option D := (intsD ds).map fun bs => .int bs.sum
def maxI : List Int → Int
  | [] => 0
  | [x] => x
  | x :: xs => let m := maxI xs; if m > x then m else x
def minI : List Int → Int
  | [] => 0
  | [x] => x
  | x :: xs => let m := minI xs; if m < x then m else x
theorem maxI_mem : ∀ {xs : List Int}, xs ≠ [] → maxI xs ∈ xs ∧ ∀ y ∈ xs, y ≤ maxI xs
  | [], h => absurd rfl h
  | [x], _ => ⟨by simp [maxI], fun y hy => by simp at hy; simp [maxI, hy]⟩
  | x :: z :: zs, _ => by
    obtain ⟨h1, h2⟩ := maxI_mem (xs := z :: zs) (by simp)
    have e : maxI (x :: z :: zs) = if maxI (z :: zs) > x then maxI (z :: zs) else x := rfl
    rw [e]
    split
    · rename_i hc
      refine ⟨List.mem_cons_of_mem _ h1, fun y hy => ?_⟩
      rcases List.mem_cons.mp hy with rfl | hy
      · omega
      · exact h2 y hy
    · rename_i hc
      refine ⟨List.mem_cons_self, fun y hy => ?_⟩
      rcases List.mem_cons.mp hy with rfl | hy
      · omega
      · have := h2 y hy; omega
theorem minI_mem : ∀ {xs : List Int}, xs ≠ [] → minI xs ∈ xs ∧ ∀ y ∈ xs, minI xs ≤ y
  | [], h => absurd rfl h
  | [x], _ => ⟨by simp [minI], fun y hy => by simp at hy; simp [minI, hy]⟩
  | x :: z :: zs, _ => by
    obtain ⟨h1, h2⟩ := minI_mem (xs := z :: zs) (by simp)
    have e : minI (x :: z :: zs) = if minI (z :: zs) < x then minI (z :: zs) else x := rfl
    rw [e]
    split
    · rename_i hc
      refine ⟨List.mem_cons_of_mem _ h1, fun y hy => ?_⟩
      rcases List.mem_cons.mp hy with rfl | hy
      · omega
      · exact h2 y hy
    · rename_i hc
      refine ⟨List.mem_cons_self, fun y hy => ?_⟩
      rcases List.mem_cons.mp hy with rfl | hy
      · omega
      · have := h2 y hy; omega
def gMax (ds : List D) : Option D := (intsD ds).bind fun bs => if bs = [] then none else some (.int (maxI bs))
def gMin (ds : List D) : Option D := (intsD ds).bind fun bs => if bs = [] then none else some (.int (minI bs))
def gAbs : GF
  | [.int i], s => some (.int (if i < 0 then -i else i), s)
  | _, _ => none
def gInt : GF
  | [.int i], s => some (.int i, s)
  | [.bl b], s => some (.int (if b then 1 else 0), s)
  | _, _ => none
def gMax2 : GF
  | [.int i, .int j], s => some (.int (if j > i then j else i), s)
  | _, _ => none
def gMin2 : GF
  | [.int i, .int j], s => some (.int (if j < i then j else i), s)
  | _, _ => none
def gStr : GF
  | [.int i], s => if i.natAbs.log2 < 1920 then some (.str (toString i), s) else none
  | _, _ => none
def lenD (s : Sto) : D → Option Nat
  | .str x => if x.length ≤ sizeLine then some x.length else none
  | .tup ds => some ds.length
  | .loc n => match s[n]? with
    | some (.lst ds) => some ds.length
    | some (.dct ds) => some ds.length
    | _ => none
  | _ => none
def gLen : GF
  | [d], s => (lenD s d).map fun n => (.int n, s)
  | _, _ => none
section
variable {X : Cx}
theorem ca_all (hc : X.calm = true) : CallLD X (.builtin "all") gAll := CallR.imp (cr_all hc) fun vs H Q ⟨a, us, p, s, ds, z, e, h1, hs, h2, hg, hf⟩ => by
  simp only [gAll, Option.map_eq_some_iff] at hg
  obtain ⟨bs, hb, rfl⟩ := hg
  cases boolsD_eq hb
  cases h2.bls
  exact ⟨a, bs, e, h1, hf.now hs (.bl _)⟩
theorem ca_any (hc : X.calm = true) : CallLD X (.builtin "any") gAny := CallR.imp (cr_any hc) fun vs H Q ⟨a, us, p, s, ds, z, e, h1, hs, h2, hg, hf⟩ => by
  simp only [gAny, Option.map_eq_some_iff] at hg
  obtain ⟨bs, hb, rfl⟩ := hg
  cases boolsD_eq hb
  cases h2.bls
  exact ⟨a, bs, e, h1, hf.now hs (.bl _)⟩
theorem ca_sum (hc : X.calm = true) : CallLD X (.builtin "sum") gSum := CallR.imp (cr_sum hc) fun vs H Q ⟨a, us, p, s, ds, z, e, h1, hs, h2, hg, hf⟩ => by
  simp only [gSum, Option.map_eq_some_iff] at hg
  obtain ⟨bs, hb, rfl⟩ := hg
  cases intsD_eq hb
  cases h2.ints
  exact ⟨a, bs, e, h1, hf.now hs (.int _)⟩
theorem ca_max (hc : X.calm = true) : CallLD X (.builtin "max") gMax := CallR.imp (cr_max hc) fun vs H Q ⟨a, us, p, s, ds, z, e, h1, hs, h2, hg, hf⟩ => by
  simp only [gMax, Option.bind_eq_some_iff] at hg
  obtain ⟨bs, hb, hg⟩ := hg
  split at hg
  · cases hg
  · rename_i hne
    cases hg
    cases intsD_eq hb
    cases h2.ints
    refine ⟨a, bs, e, h1, List.length_pos_iff.mpr hne, fun m hm hle => ?_⟩
    have hq := maxI_mem hne
    have : m = maxI bs := Int.le_antisymm (hq.2 m hm) (hle _ hq.1)
    rw [this]
    exact hf.now hs (.int _)
theorem ca_min (hc : X.calm = true) : CallLD X (.builtin "min") gMin := CallR.imp (cr_min hc) fun vs H Q ⟨a, us, p, s, ds, z, e, h1, hs, h2, hg, hf⟩ => by
  simp only [gMin, Option.bind_eq_some_iff] at hg
  obtain ⟨bs, hb, hg⟩ := hg
  split at hg
  · cases hg
  · rename_i hne
    cases hg
    cases intsD_eq hb
    cases h2.ints
    refine ⟨a, bs, e, h1, List.length_pos_iff.mpr hne, fun m hm hle => ?_⟩
    have hq := minI_mem hne
    have : m = minI bs := Int.le_antisymm (hle _ hq.1) (hq.2 m hm)
    rw [this]
    exact hf.now hs (.int _)
/-- tuple(list), tuple(tuple); list(..): DL5 -/
theorem ca_tuple : CallLD X (.type "tuple") (fun ds => some (.tup ds)) := CallR.imp call_tuple_of fun vs H Q ⟨a, us, p, s, ds, z, e, h1, hs, h2, hg, hf⟩ => by
  cases hg
  exact ⟨a, us, e, .inl ⟨h1, fun l hl => hf.tup hs h2 hl⟩⟩
theorem ca_tupleT : CallTD X (.type "tuple") (fun ds => some (.tup ds)) := CallR.imp call_tuple_of fun vs H Q ⟨a, us, p, s, ds, z, e, h1, hs, h2, hg, hf⟩ => by
  cases hg
  exact ⟨a, us, e, .inr ⟨h1, hf.now hs (.tup h1 h2)⟩⟩
theorem one_rd {K : PySem.W.Frag} {p : List Addr} {H : Hp} {d : D} {vs : List V} (r : RDs K p H [d] vs) : ∃ v, vs = [v] ∧ RD K p H d v := by
  cases r with
  | cons h r => cases r; exact ⟨_, rfl, h⟩
theorem two_rd {K : PySem.W.Frag} {p : List Addr} {H : Hp} {d e : D} {vs : List V} (r : RDs K p H [d, e] vs) : ∃ v w, vs = [v, w] ∧ RD K p H d v ∧ RD K p H e w := by
  cases r with
  | cons h r =>
    cases r with
    | cons h2 r => cases r; exact ⟨_, _, rfl, h, h2⟩
theorem ca_abs : CallD X (.builtin "abs") gAbs := CallR.imp call_abs fun vs H Q ⟨p, s, ds, z, s', hs, rds, hg, hf⟩ => by
  unfold gAbs at hg
  split at hg <;> cases hg
  obtain ⟨v, rfl, rd⟩ := one_rd rds
  cases rd
  exact ⟨_, rfl, hf.now hs (.int _)⟩
theorem ca_int : CallD X (.type "int") gInt := CallR.imp call_int1 fun vs H Q ⟨p, s, ds, z, s', hs, rds, hg, hf⟩ => by
  unfold gInt at hg
  split at hg <;> cases hg
  · obtain ⟨v, rfl, rd⟩ := one_rd rds
    cases rd
    exact .inl ⟨_, rfl, hf.now hs (.int _)⟩
  · obtain ⟨v, rfl, rd⟩ := one_rd rds
    cases rd
    exact .inr ⟨_, rfl, hf.now hs (.int _)⟩
theorem ca_max2 (hc : X.calm = true) : CallD X (.builtin "max") gMax2 := CallR.imp (call_max2 hc) fun vs H Q ⟨p, s, ds, z, s', hs, rds, hg, hf⟩ => by
  unfold gMax2 at hg
  split at hg <;> cases hg
  obtain ⟨v, w, rfl, rd, rd2⟩ := two_rd rds
  cases rd; cases rd2
  exact ⟨_, _, rfl, hf.now hs (.int _)⟩
theorem ca_min2 (hc : X.calm = true) : CallD X (.builtin "min") gMin2 := CallR.imp (call_min2 hc) fun vs H Q ⟨p, s, ds, z, s', hs, rds, hg, hf⟩ => by
  unfold gMin2 at hg
  split at hg <;> cases hg
  obtain ⟨v, w, rfl, rd, rd2⟩ := two_rd rds
  cases rd; cases rd2
  exact ⟨_, _, rfl, hf.now hs (.int _)⟩
theorem ca_str : CallD X (.type "str") gStr := CallR.imp call_str_int fun vs H Q ⟨p, s, ds, z, s', hs, rds, hg, hf⟩ => by
  unfold gStr at hg
  split at hg
  · split at hg
    · rename_i hl
      cases hg
      obtain ⟨v, rfl, rd⟩ := one_rd rds
      cases rd
      exact ⟨_, rfl, hl, hf.now hs (.str _)⟩
    · cases hg
  · cases hg
theorem ca_len (hc : X.calm = true) : CallD X (.builtin "len") gLen := CallR.imp (call_len.or call_lenD) fun vs H Q ⟨p, s, ds, z, s', hs, rds, hg, hf⟩ => by
  unfold gLen at hg
  split at hg
  · obtain ⟨v, rfl, rd⟩ := one_rd rds
    simp only [Option.map_eq_some_iff] at hg
    obtain ⟨n, hn, hz⟩ := hg
    cases hz
    cases rd with
    | non => simp [lenD] at hn
    | bl b => simp [lenD] at hn
    | int b => simp [lenD] at hn
    | con b => simp [lenD] at hn
    | str x =>
      simp only [lenD] at hn
      split at hn
      · rename_i hl
        cases hn
        exact .inl ⟨_, _, rfl, ⟨hl, rfl⟩, hf.now hs (.int _)⟩
      · cases hn
    | tup h1 r1 =>
      simp only [lenD] at hn
      cases hn
      exact .inl ⟨_, _, rfl, .inr ⟨_, h1, r1.length⟩, hf.now hs (.int _)⟩
    | loc h1 =>
      simp only [lenD] at hn
      split at hn
      · rename_i ds e1
        cases hn
        obtain ⟨a1, o1, q1, q2, q3⟩ := hs.mut e1
        rw [h1] at q1; cases q1
        cases q3 with
        | lst r => exact .inl ⟨_, _, rfl, .inl ⟨_, SqL.of q2, r.length⟩, hf.now hs (.int _)⟩
      · rename_i ds e1
        cases hn
        obtain ⟨a1, o1, q1, q2, q3⟩ := hs.mut e1
        rw [h1] at q1; cases q1
        cases q3 with
        | dct r => exact .inr ⟨_, _, rfl, q2, by have := hf.now hs (.int _); rw [← r.length]; exact this⟩
      · cases hn
  · cases hg
end
end DL
end
/-! ### DL5 -/
section
set_option linter.all false
set_option maxRecDepth 100000
/-! DL5: defs and methods called, objects made, attributes, subscripts, slices, isinstance. -/
namespace DL
open PySem PySem.Spec L2
open PyProof.Rows hiding St

/-! ### calls -/
def pF (K : PySem.W.Frag) (p : List Addr) (H : Hp) (r : R D) (Q : VK) (E : XK) : Prop := match r with
  | .ok d s => Fin K p H d s Q
  | .exc e s => ∀ p' H' d, Ex p H p' H' → RS K p' s H' → RX K p' H' e d → E (.ref e.cls) d H'
  | .bad => False
/-- a def's promise by its mirror -/
def spD (K : PySem.W.Frag) (n : Nat) (f : MF) : Sp := fun vs H Q E => ∃ p s ds, ds.length = n ∧ RS K p s H ∧ RDs K p H ds vs ∧ pF K p H (f ds s) Q E
abbrev FnD (P : Program) (w : World) (K : PySem.W.Frag) (mg : Str → Option Value) (base : Heap) (k : Nat) (f : Addr) (fd : FuncData) (ps : List Str) (m : MF) : Prop := FnOk P w K mg base (L2.CX P w) k f fd ps (spD K ps.length m)
def mCall (f : MF) (ma : MA) : ME := fun r s => (ma r s).bind f
def mCall0 (f : MF) : ME := fun _ s => f [] s
def mMeth (C : Addr) (m : Str) (f : MF) (mo : ME) (ma : MA) : ME := fun r s => (mo r s).bind fun d s1 => match d with
  | .loc n => match s1[n]? with
    | some (.ins C' fs) => if C' = C ∧ fs.lookup m = none then (ma r s1).bind fun ds s2 => f (.loc n :: ds) s2 else .bad
    | _ => .bad
  | _ => .bad
def mMake (C : Addr) (f : MF) (ma : MA) : ME := fun r s => (ma r s).bind fun ds s1 => (f (.loc s1.length :: ds) (s1 ++ [.ins C []])).bind fun d s2 => match d with
  | .non => .ok (.loc s1.length) s2
  | _ => .bad
section
variable {X : Cx} {W : WX} {pos : Pos} {e o : Expr} {es : List Expr} {ma : MA} {mo : ME} {k : Nat} {f C : Addr} {fd : FuncData} {ps : List Str} {m : MF} {x mn : Str} {p apos : Pos}
theorem pF_of {K : PySem.W.Frag} {W : WX} {t : L2.St} {p : List Addr} {H : Hp} {Q : VK} {r : R D} (q : pR K W t p H r fun p' H' d _ => ∀ v, RD K p' H' d v → Q v H') : pF K p H r Q (fun c d H => W c d t H) := by
  cases r with
  | ok d s => exact fun p' H' v e r rd => q p' H' e r v rd
  | exc e s => exact q
  | bad => exact q
theorem de_call (F : FnD X.prog X.w X.K X.mg X.base k f fd ps m) (hr : Room k X.A) (tk : Takes X W) (hg : Gl X x) (hm : X.mg x = some (.ref f)) (hk : PySem.W.keepIn X.K (.ref f) = true) (hb : Binds X.K fd ps []) (hlen : (e :: es).length = ps.length) (ha : DA X W (e :: es) ma) (hdb : (x == ("__debug__" : Str)) = false := by decide)
    (hma : ∀ r s ds s', ma r s = .ok ds s' → ds.length = ps.length) (he : starEach (e :: es) X.env = (false, eval e X.env) :: starEach es X.env := by rfl) (hpl : (backTo pos (starEach es X.env)).any (·.1) = false := by rfl) :
    DE X W (.Call (.Name x p) (e :: es) [] pos) (mCall m ma) :=
  PE.imp (pe_callS (E := WE W) F hr hg hm hk hb (fun σ => passAt tk σ) ha hdb he hpl) fun t H Q ⟨p, r, s, hre, hs, q⟩ => by
    refine ⟨p, r, s, hre, hs, ?_⟩
    cases hq : ma r s with
    | ok ds s1 =>
      simp only [mCall, hq, R.bind_ok] at q
      exact fun p1 H1 e1 r1 vs rds => ⟨p1, s1, ds, hma r s ds s1 hq, r1, rds, pF_of (pR.mono e1 q)⟩
    | exc e s1 => simp only [mCall, hq, R.bind_exc] at q; exact q
    | bad => simp only [mCall, hq, R.bind_bad] at q; exact q
theorem de_call0 (F : FnD X.prog X.w X.K X.mg X.base k f fd [] m) (hr : Room k X.A) (tk : Takes X W) (hg : Gl X x) (hm : X.mg x = some (.ref f)) (hk : PySem.W.keepIn X.K (.ref f) = true) (hb : Binds X.K fd [] []) (hdb : (x == ("__debug__" : Str)) = false := by decide) :
    DE X W (.Call (.Name x p) [] [] pos) (mCall0 m) := by
  refine ⟨fun pins s σ H Q I h => ?_⟩
  refine wpAny_Call_Name_kw (ld_glob I hg hm ?_ hdb)
  obtain ⟨p, r, st, he, hs, q⟩ := h
  exact PySem.W.callWith_K0 I.kIn hk (run_fnS (us := []) (vs := []) (E := WE W) F hr hb (passAt tk σ) I .nil ⟨p, st, [], rfl, hs, .nil, pF_of q⟩)
theorem len_cons {m1 : ME} {n : Nat} (h : ∀ r s ds s', ma r s = .ok ds s' → ds.length = n) : ∀ r s ds s', mCons m1 ma r s = .ok ds s' → ds.length = n + 1 := by
  intro r s ds s' e
  simp only [mCons] at e
  cases h1 : m1 r s with
  | ok d s1 =>
    cases h2 : ma r s1 with
    | ok ds2 s2 => simp only [h1, h2, R.bind_ok] at e; cases e; simp [h _ _ _ _ h2]
    | exc _ _ => simp [h1, h2] at e
    | bad => simp [h1, h2] at e
  | exc _ _ => simp [h1] at e
  | bad => simp [h1] at e
theorem len_nil : ∀ (r : Env) (s : Sto) ds s', mNil r s = .ok ds s' → ds.length = 0 := by
  intro r s ds s' e
  simp only [mNil] at e; cases e; rfl
/-- o.m(..) -/
theorem ins_rd {K : PySem.W.Frag} {p : List Addr} {H : Hp} {s : Sto} {n : Nat} {v : V} {C : Addr} {fs : List (Str × D)} (hs : RS K p s H) (r : RD K p H (.loc n) v) (h : s[n]? = some (.ins C fs)) : ∃ a dx us, v = .ref a ∧ H a = some (.ins C dx us) ∧ RF K p H fs us ∧ p[n]? = some a := by
  cases r with
  | loc h1 =>
    obtain ⟨a1, o1, q1, q2, q3⟩ := hs.mut h
    rw [h1] at q1; cases q1
    cases q3 with
    | ins r => exact ⟨_, _, _, rfl, q2, r, h1⟩
theorem de_meth {pl : Sem Bool} (ho : DE X W o mo) (c : Cls X.K C) (hm : Meth X.K C mn f) (F : FnD X.prog X.w X.K X.mg X.base k f fd ps m) (hr : Room k X.A) (tk : Takes X W) (hb : Binds X.K fd ps []) (ha : DA X W (e :: es) ma)
    (hma : ∀ r s ds s', ma r s = .ok ds s' → ds.length + 1 = ps.length) (hst : starEach (e :: es) X.env = (false, eval e X.env) :: starEach es X.env := by rfl) (hpl : (backTo pos (starEach es X.env)).any (·.1) = false := by rfl)
    (ht : eval (.Call (.Attribute o mn apos) (e :: es) [] pos) X.env = (do
      let ov ← eval o X.env
      standAt apos.atName
      let (f, first) ← holding [ov] (getMethod ov mn pl)
      callWith pos f first (backTo pos (starEach (e :: es) X.env)) (backToKw pos (keywordEach [] X.env))) := by rfl) :
    DE X W (.Call (.Attribute o mn apos) (e :: es) [] pos) (mMeth C mn m mo ma) := by
  refine ⟨fun pins s σ H Q I h => ?_⟩
  obtain ⟨p, r, st, he, hs, q⟩ := h
  refine PySem.W.methodCall_KW (pl := pl) (thn (ho.run pins s σ H (fun x H1 => ∃ a dx fs, x = .ref a ∧ H1 a = some (.ins C dx fs) ∧ fs.lookup mn = none ∧ tA X.K W ma σ H1 fun vs H2 => spD X.K ps.length m (.ref a :: vs) H2 Q (WE W σ)) I ?_) fun u s1 ⟨x, H1, I1, rx, a, dx, fs, ex, ea, l, q⟩ => ?_) ht
  · refine tE.stepK he hs q fun p1 H1 d v s1 e1 r1 he1 rd q1 => ?_
    split at q1
    · rename_i n
      split at q1
      · rename_i C' fs hn
        split at q1
        · rename_i hc
          obtain ⟨rfl, hl⟩ := hc
          obtain ⟨a, dx, us, rfl, ha1, rf, hp⟩ := ins_rd r1 rd hn
          refine ⟨a, dx, us, rfl, ha1, rf.lookup_none hl, p1, r, s1, he1, r1, ?_⟩
          cases hq : ma r s1 with
          | ok ds s2 =>
            simp only [hq, R.bind_ok] at q1
            exact fun p2 H2 e2 r2 vs rds => ⟨p2, s2, .loc n :: ds, by simp [← hma r s1 ds s2 hq], r2, .cons (rd.mono e2) rds, pF_of (pR.mono e2 q1)⟩
          | exc e s2 => simp only [hq, R.bind_exc] at q1; exact q1
          | bad => simp only [hq, R.bind_bad] at q1; exact q1
        · exact q1.elim
      · exact q1.elim
    · exact q1.elim
  · subst ex
    obtain rfl : u = Value.ref a := rx
    refine getmeth_ok I1 ea c hm l ?_
    refine PySem.W.callWith_K (first := [.ref a]) (h₀ := X.base) I.ok.mod.kin hm.kp (thn (ha.run pos pins s1 σ H1 _ I1 q) fun us s2 ⟨vs, H2, I2, r, q2⟩ => ⟨I2.kIn, ?_⟩) hst hpl
    exact run_fnS (us := .ref a :: us) (vs := .ref a :: vs) (E := WE W) F hr hb (passAt tk σ) I2 (.cons rfl r) q2
theorem de_meth0 {pl : Sem Bool} (ho : DE X W o mo) (c : Cls X.K C) (hm : Meth X.K C mn f) (F : FnD X.prog X.w X.K X.mg X.base k f fd ps m) (hr : Room k X.A) (tk : Takes X W) (hb : Binds X.K fd ps []) (hps : ps.length = 1)
    (ht : eval (.Call (.Attribute o mn apos) [] [] pos) X.env = (do
      let ov ← eval o X.env
      standAt apos.atName
      let (f, first) ← holding [ov] (getMethod ov mn pl)
      callWith pos f first (backTo pos (starEach [] X.env)) (backToKw pos (keywordEach [] X.env))) := by rfl) :
    DE X W (.Call (.Attribute o mn apos) [] [] pos) (mMeth C mn m mo mNil) := by
  refine ⟨fun pins s σ H Q I h => ?_⟩
  obtain ⟨p, r, st, he, hs, q⟩ := h
  refine PySem.W.methodCall_KW (pl := pl) (thn (ho.run pins s σ H (fun x H1 => ∃ a dx fs, x = .ref a ∧ H1 a = some (.ins C dx fs) ∧ fs.lookup mn = none ∧ spD X.K ps.length m [.ref a] H1 Q (WE W σ)) I ?_) fun u s1 ⟨x, H1, I1, rx, a, dx, fs, ex, ea, l, q⟩ => ?_) ht
  · refine tE.stepK he hs q fun p1 H1 d v s1 e1 r1 he1 rd q1 => ?_
    split at q1
    · rename_i n
      split at q1
      · rename_i C' fs hn
        split at q1
        · rename_i hc
          obtain ⟨rfl, hl⟩ := hc
          obtain ⟨a, dx, us, rfl, ha1, rf, hp⟩ := ins_rd r1 rd hn
          exact ⟨a, dx, us, rfl, ha1, rf.lookup_none hl, p1, s1, [.loc n], by simp [hps], r1, .cons rd .nil, pF_of q1⟩
        · exact q1.elim
      · exact q1.elim
    · exact q1.elim
  · subst ex
    obtain rfl : u = Value.ref a := rx
    refine getmeth_ok I1 ea c hm l ?_
    exact PySem.W.callWith_K0 (first := [.ref a]) I1.kIn hm.kp (run_fnS (us := [.ref a]) (vs := [.ref a]) (E := WE W) F hr hb (passAt tk σ) I1 (.cons rfl .nil) q)
/-- C(..) -/
theorem run_makeS {pins : List (Addr × Obj)} {σ : L2.St} {H : Hp} {s : Shared} {Q : VK} {us : List Value} {vs : List V} {sp : Sp} {CX : CXT} {E : XK} (M : Mk X.K C f) (F : FnOk X.prog X.w X.K X.mg X.base CX k f fd ps sp) (hr : Room (k + 1) X.A) (hb : Binds X.K fd ps [])
    (hx : PassesAt CX X σ E) (I : Inv X pins σ H s) (r : Vals vs us)
    (h : ∀ x dx, H x = none → H dx = none → dx ≠ x → sp (.ref x :: vs) (upd (upd H dx (.own x)) x (.ins C dx [])) (fun v H2 => v = .non ∧ Q (.ref x) H2) E) :
    wpAny (model X.prog X.w) X.A (call (.ref C) us) (EP X pins σ Q) X.xe s := by
  have hq := h (s.heap.objs.size + 1) s.heap.objs.size (I.hok.fresh (Nat.le_succ _)) (I.hok.fresh (Nat.le_refl _)) (Nat.ne_of_lt (Nat.lt_succ_self _))
  have I2 := Inv.made (C := C) I
  have r2 : Vals (V.ref (s.heap.objs.size + 1) :: vs) (Value.ref (s.heap.objs.size + 1) :: us) := .cons rfl r
  have hl : (Value.ref (s.heap.objs.size + 1) :: us).length = ps.length := by
    have e := r2.length
    rw [F.len _ _ _ _ hq] at e
    exact e.symm
  have b := hb { s with heap := (s.heap.push PySem.W.emptyDict).push (PySem.W.instObj C s.heap.objs.size) } (Value.ref (s.heap.objs.size + 1) :: us) I2.kIn (by rw [List.append_nil]; exact hl)
  rw [List.append_nil] at b
  refine wpAny_call (make_map (f := f) I.kIn M.makes M.init (beq_iff_eq.mp M.fn) (codeAny_mono (F.run _ X.stack _ _ ⟨Value.ref (s.heap.objs.size + 1) :: us, []⟩ (Value.ref (s.heap.objs.size + 1) :: us) _ _ E (hr.make C us [])
    (I2.env0.make C us []) b r2 hq) fun r s' hq' => ?_))
  cases r with
  | error e => exact hx pins _ _ e s' I2 hq'
  | ok fl =>
    cases fl with
    | ret u =>
      obtain ⟨v, H', I3, rv, ev, q3⟩ := I2.after hq'
      subst ev
      exact ⟨rv, ⟨V.ref (s.heap.objs.size + 1), H', I3, rfl, q3⟩⟩
    | next => exact False.elim hq'
    | brk => exact False.elim hq'
    | cont => exact False.elim hq'
theorem RS.inst {K : PySem.W.Frag} {p : List Addr} {s : Sto} {H : Hp} {a dx C : Addr} (h : RS K p s H) (ha : H a = none) (hd : H dx = none) (hne : dx ≠ a) :
    Ex p H (p ++ [a]) (upd (upd H dx (.own a)) a (.ins C dx [])) ∧ RS K (p ++ [a]) (s ++ [.ins C []]) (upd (upd H dx (.own a)) a (.ins C dx [])) := by
  have ha' : upd H dx (.own a) a = none := by rw [upd_ne (Ne.symm hne)]; exact ha
  exact ⟨(ex_new0 hd).trans (ex_new ha'), (h.beside hd).push ha' (.ins .nil)⟩
theorem de_make (M : Mk X.K C f) (F : FnD X.prog X.w X.K X.mg X.base k f fd ps m) (hr : Room (k + 1) X.A) (tk : Takes X W) (hg : Gl X x) (hm : X.mg x = some (.ref C)) (hb : Binds X.K fd ps []) (ha : DA X W (e :: es) ma)
    (hma : ∀ r s ds s', ma r s = .ok ds s' → ds.length + 1 = ps.length) (hdb : (x == ("__debug__" : Str)) = false := by decide) (he : starEach (e :: es) X.env = (false, eval e X.env) :: starEach es X.env := by rfl) (hpl : (backTo pos (starEach es X.env)).any (·.1) = false := by rfl) :
    DE X W (.Call (.Name x p) (e :: es) [] pos) (mMake C m ma) := by
  refine ⟨fun pins s σ H Q I h => ?_⟩
  obtain ⟨p, r, st, hre, hs, q⟩ := h
  refine wpAny_Call_Name_kw (ld_glob I hg hm ?_ hdb)
  refine PySem.W.callWith_K (h₀ := X.base) I.ok.mod.kin M.kp (thn (ha.run pos pins s σ H (fun vs H1 => ∀ x dx, H1 x = none → H1 dx = none → dx ≠ x → spD X.K ps.length m (.ref x :: vs) (upd (upd H1 dx (.own x)) x (.ins C dx [])) (fun v H2 => v = .non ∧ Q (.ref x) H2) (WE W σ)) I ?_) fun us s1 ⟨vs, H1, I1, r, q⟩ => ⟨I1.kIn, ?_⟩) he hpl
  · refine ⟨p, r, st, hre, hs, ?_⟩
    cases hq : ma r st with
    | ok ds s1 =>
      simp only [mMake, hq, R.bind_ok] at q
      refine fun p1 H1 e1 r1 vs rds a dx ha hd hne => ?_
      obtain ⟨ex, rs⟩ := r1.inst (C := C) ha hd hne
      refine ⟨p1 ++ [a], s1 ++ [.ins C []], .loc s1.length :: ds, by simp [← hma r st ds s1 hq], rs, .cons (.loc (by rw [← r1.len]; simp)) (rds.mono ex), ?_⟩
      have q' := pR.mono (e1.trans ex) q
      cases hq2 : m (.loc s1.length :: ds) (s1 ++ [.ins C []]) with
      | ok d s2 =>
        simp only [hq2, R.bind_ok] at q'
        intro p2 H2 v e2 r2 rd
        cases rd with
        | non =>
          refine ⟨rfl, ?_⟩
          exact q' p2 H2 e2 r2 _ (.loc (e2.get (by rw [← r1.len]; simp)))
        | _ => exact (show False from q').elim
      | exc e s2 => simp only [hq2, R.bind_exc] at q'; exact q'
      | bad => simp only [hq2, R.bind_bad] at q'; exact q'
    | exc e s1 => simp only [mMake, hq, R.bind_exc] at q; exact q
    | bad => simp only [mMake, hq, R.bind_bad] at q; exact q
  · exact run_makeS M F hr hb (passAt tk σ) I1 r q
end

/-! ### attributes -/
/-- classes whose instances have plain attributes of this name -/
def Plain (K : PySem.W.Frag) (cs : List Addr) (f : Str) : Prop := ∀ C ∈ cs, Cls K C ∧ NoAttr K C f
def mFld (cs : List Addr) (f : Str) (mo : ME) : ME := fun r s => (mo r s).bind fun d s1 => match d with
  | .loc n => match s1[n]? with
    | some (.ins C fs) => if C ∈ cs then (match fs.lookup f with
      | some v => .ok v s1
      | none => .bad) else .bad
    | _ => .bad
  | _ => .bad
def putD (f : Str) (v : D) : List (Str × D) → List (Str × D)
  | [] => [(f, v)]
  | (g, x) :: r => if g = f then (g, v) :: r else (g, x) :: putD f v r
theorem RF.putD {K : PySem.W.Frag} {p : List Addr} {H : Hp} {f : Str} {d : D} {v : V} (rd : RD K p H d v) : ∀ {ds : List (Str × D)} {vs : List (Str × V)}, RF K p H ds vs → RF K p H (putD f d ds) (putF f v vs)
  | _, _, .nil => .cons ⟨rfl, rd⟩ .nil
  | (g, x) :: ds, (g', y) :: vs, .cons q r => by
    obtain ⟨q1, q2⟩ := q
    dsimp only at q1 q2
    subst q1
    simp only [DL.putD, L2.putF]
    split
    · exact .cons ⟨rfl, rd⟩ r
    · exact .cons ⟨rfl, q2⟩ (RF.putD rd r)
section
variable {X : Cx} {W : WX} {pos pos' : Pos} {e o value : Expr} {mo mv : ME} {f : Str} {cs : List Addr}
theorem de_fld (hc : Plain X.K cs f) (ho : DE X W o mo) (hb : attributeBase o f X.env (eval o X.env) = eval o X.env := by rfl) : DE X W (.Attribute o f pos) (mFld cs f mo) := PE.imp (pe_fld ho hb) fun t H Q ⟨p, r, s, he, hs, q⟩ => by
  refine tE.stepK he hs q fun p1 H1 d v s1 e1 r1 he1 rd q1 => ?_
  split at q1
  · split at q1
    · rename_i C fs hn
      split at q1
      · rename_i hm
        split at q1
        · rename_i z hz
          obtain ⟨a, dx, us, rfl, ha1, rf, hp⟩ := ins_rd r1 rd hn
          obtain ⟨v, hv, rv⟩ := rf.lookup hz
          exact ⟨a, C, dx, us, v, rfl, ha1, (hc C hm).1, (hc C hm).2, hv, q1 p1 H1 .refl r1 v rv⟩
        · exact q1.elim
      · exact q1.elim
    · exact q1.elim
  · exact q1.elim
/-- o.f = value -/
def mSetFld (cs : List Addr) (f : Str) (mo mv : ME) : MS := fun r s => match mv r s with
  | .ok v s1 => match mo r s1 with
    | .ok (.loc n) s2 => match s2[n]? with
      | some (.ins C fs) => if C ∈ cs ∧ fs.length < 1000 then .nx r (s2.set n (.ins C (putD f v fs))) else .bad
      | _ => .bad
    | .ok _ _ => .bad
    | .exc e s2 => .exc e r s2
    | .bad => .bad
  | .exc e s1 => .exc e r s1
  | .bad => .bad
/-- from a statement that begins with an expression -/
theorem tE.stepS {K : PySem.W.Frag} {W : WX} {t : L2.St} {H : Hp} {Z : Ends} {m : ME} {f : D → Sto → S} {p : List Addr} {r : Env} {s : Sto} {Q1 : VK} (he : RE K p H r t) (hs : RS K p s H) {x : S}
    (hx : x = match m r s with | .ok d s1 => f d s1 | .exc e s1 => .exc e r s1 | .bad => .bad) (h : pS K W Z p H x)
    (g : ∀ p1 H1 d v s1, Ex p H p1 H1 → RS K p1 s1 H1 → RE K p1 H1 r t → RD K p1 H1 d v → pS K W Z p1 H1 (f d s1) → Q1 v H1) : tE K W m t H Q1 := by
  refine ⟨p, r, s, he, hs, ?_⟩
  subst hx
  cases hq : m r s with
  | ok d s1 =>
    simp only [hq] at h
    exact fun p1 H1 e1 r1 v rd => g p1 H1 d v s1 e1 r1 (he.mono e1) rd (pS.mono e1 h)
  | exc e s1 =>
    simp only [hq] at h
    exact fun p1 H1 d e1 r1 rx => h p1 H1 t d e1 r1 (he.mono e1) rx
  | bad => simp only [hq] at h; exact h
theorem ds_fld (hc : Plain X.K cs f) (ho : DE X W o mo) (hv : DE X W value mv) (hs : swapsWith value (some (.Attribute o f pos')) pos.line X.env = pure false := by rfl) : DS X W (.Assign [.Attribute o f pos'] value pos) (mSetFld cs f mo mv) :=
  PS.imp (ps_fld ho hv hs) fun D t H ⟨p, r, s, he, hs, q⟩ => by
    refine tE.stepS (f := fun v s1 => match mo r s1 with
      | .ok (.loc n) s2 => (match s2[n]? with
        | some (.ins C fs) => if C ∈ cs ∧ fs.length < 1000 then .nx r (s2.set n (.ins C (putD f v fs))) else .bad
        | _ => .bad)
      | .ok _ _ => .bad
      | .exc e s2 => .exc e r s2
      | .bad => .bad) he hs rfl q fun p1 H1 d v s1 e1 r1 he1 rd q1 => ?_
    refine tE.stepS (f := fun z s2 => match z with
      | .loc n => (match s2[n]? with
        | some (.ins C fs) => if C ∈ cs ∧ fs.length < 1000 then .nx r (s2.set n (.ins C (putD f d fs))) else .bad
        | _ => .bad)
      | _ => .bad) he1 r1 (by cases mo r s1 with
        | ok d s2 => cases d <;> rfl
        | exc _ _ => rfl
        | bad => rfl) q1 fun p2 H2 z w s2 e2 r2 he2 rd2 q2 => ?_
    split at q2
    · split at q2
      · rename_i C fs hn
        split at q2
        · rename_i hm
          obtain ⟨a, dx, us, rfl, ha1, rf, hp⟩ := ins_rd r2 rd2 hn
          have ex : Ex p2 H2 p2 (upd H2 a (.ins C dx (putF f v us))) := ex_upd hp ha1 trivial
          refine ⟨a, C, dx, us, rfl, ha1, (hc C hm.1).1, (hc C hm.1).2, by rw [← rf.length]; exact hm.2, ?_⟩
          exact q2 p2 _ t ex (r2.put hp ha1 trivial (.ins ((RF.putD (rd.mono e2) rf).mono ex))) (he2.mono ex)
        · exact q2.elim
      · exact q2.elim
    · exact q2.elim
end

/-! ### dicts as lists of entries -/
def dGet (kvs : List (Key × D)) (k : Key) : Option D := (kvs.find? fun kv => decide (kv.1 = k)).map (·.2)
def dPut (kvs : List (Key × D)) (k : Key) (v : D) : List (Key × D) :=
  if (kvs.any fun kv => decide (kv.1 = k)) = true then kvs.map (fun kv => if kv.1 = k then (kv.1, v) else kv) else kvs ++ [(k, v)]
def keyD : D → Option Key
  | .int i => some (.inl i)
  | .str x => some (.inr x)
  | _ => none
def keyV : Key → D
  | .inl i => .int i
  | .inr x => .str x
section
variable {K : PySem.W.Frag} {p : List Addr} {H : Hp}
theorem keyD_rd {d : D} {v : V} {k : Key} (r : RD K p H d v) (h : keyD d = some k) : v = kV k := by
  cases r <;> simp only [keyD] at h <;> cases h <;> rfl
theorem keyV_rd (k : Key) : RD K p H (keyV k) (kV k) := by cases k <;> constructor
theorem dGet_rd {k : Key} : ∀ {ds : List (Key × D)} {vs : List (Key × V)} {d : D}, RF K p H ds vs → dGet ds k = some d → ∃ v, valV vs k = some v ∧ RD K p H d v
  | _, _, _, .nil, e => by simp [dGet] at e
  | (k1, d1) :: ds, (k2, v2) :: vs, d, .cons q r, e => by
    obtain ⟨q1, q2⟩ := q
    dsimp only at q1 q2
    subst q1
    by_cases h : k1 = k
    · simp only [dGet, List.find?, h, decide_true, Option.map_some, Option.some.injEq] at e
      subst e
      exact ⟨v2, by rw [valV_pos (by exact h)], q2⟩
    · have e' : dGet ds k = some d := by simpa only [dGet, List.find?, h, decide_false] using e
      obtain ⟨v, h1, h2⟩ := dGet_rd r e'
      exact ⟨v, by rw [valV_neg (by exact h)]; exact h1, h2⟩
theorem dGet_none {k : Key} : ∀ {ds : List (Key × D)} {vs : List (Key × V)}, RF K p H ds vs → dGet ds k = none → valV vs k = none
  | _, _, .nil, _ => rfl
  | (k1, d1) :: ds, (k2, v2) :: vs, .cons q r, e => by
    obtain ⟨q1, q2⟩ := q
    dsimp only at q1 q2
    subst q1
    by_cases h : k1 = k
    · simp [dGet, List.find?, h] at e
    · have e' : dGet ds k = none := by simpa only [dGet, List.find?, h, decide_false] using e
      rw [valV_neg (by exact h)]; exact dGet_none r e'
theorem any_rd {k : Key} : ∀ {ds : List (Key × D)} {vs : List (Key × V)}, RF K p H ds vs → (ds.any fun kv => decide (kv.1 = k)) = vs.any fun kv => decide (kv.1 = k)
  | _, _, .nil => rfl
  | (k1, d1) :: ds, (k2, v2) :: vs, .cons q r => by
    obtain ⟨q1, q2⟩ := q
    dsimp only at q1 q2
    subst q1
    simp only [List.any_cons, any_rd r]
theorem dPut_map {k : Key} {d : D} {v : V} (rd : RD K p H d v) : ∀ {ds : List (Key × D)} {vs : List (Key × V)}, RF K p H ds vs → RF K p H (ds.map fun kv => if kv.1 = k then (kv.1, d) else kv) (vs.map fun kv => if kv.1 = k then (kv.1, v) else kv)
  | _, _, .nil => .nil
  | (k1, d1) :: ds, (k2, v2) :: vs, .cons q r => by
    obtain ⟨q1, q2⟩ := q
    dsimp only at q1 q2
    subst q1
    simp only [List.map_cons]
    refine .cons ?_ (dPut_map rd r)
    by_cases h : k1 = k
    · rw [if_pos h, if_pos h]; exact ⟨rfl, rd⟩
    · rw [if_neg h, if_neg h]; exact ⟨rfl, q2⟩
theorem RF.snoc {κ : Type} {k : κ} {d : D} {v : V} (rd : RD K p H d v) : ∀ {ds : List (κ × D)} {vs : List (κ × V)}, RF K p H ds vs → RF K p H (ds ++ [(k, d)]) (vs ++ [(k, v)])
  | _, _, .nil => .cons ⟨rfl, rd⟩ .nil
  | _, _, .cons q r => .cons q (RF.snoc rd r)
theorem dPut_rd {k : Key} {d : D} {v : V} (rd : RD K p H d v) {ds : List (Key × D)} {vs : List (Key × V)} (r : RF K p H ds vs) : RF K p H (dPut ds k d) (putK vs k v) := by
  unfold dPut putK
  rw [any_rd r]
  split
  · exact dPut_map rd r
  · exact RF.snoc rd r
end

/-! ### subscripts -/
def gIx : G2
  | .loc n, i, s => match s[n]? with
    | some (.lst ds) => (match i with
      | .int j => (atI ds j).map fun z => (z, s)
      | _ => none)
    | some (.dct kvs) => (keyD i).bind fun k => (dGet kvs k).map fun z => (z, s)
    | some (.lok kvs) => (keyD i).bind fun k => (dGet kvs k).map fun z => (z, s)
    | _ => none
  | .tup ds, .int j, s => (atI ds j).map fun z => (z, s)
  | .str x, .int j, s => if x.length ≤ sizeLine then (atI x.cps.toList j).map fun c => (.str ⟨#[c]⟩, s) else none
  | _, _, _ => none
section
variable {X : Cx} {W : WX} {pos : Pos} {a b : Expr} {m n : ME}
theorem IxR.or {r r' : R2} (h : IxR X r) (h' : IxR X r') : IxR X (fun x y H Q => r x y H Q ∨ r' x y H Q) := fun value slice pins s σ H x y v u Q I rx ry q hs =>
  q.elim (fun z => h value slice pins s σ H x y v u Q I rx ry z hs) fun z => h' value slice pins s σ H x y v u Q I rx ry z hs
theorem IxR.imp {r r' : R2} (h : IxR X r) (g : ∀ x y H Q, r' x y H Q → r x y H Q) : IxR X r' := fun value slice pins s σ H x y v u Q I rx ry q hs => h value slice pins s σ H x y v u Q I rx ry (g x y H Q q) hs
theorem ix_dict (hu : X.A.units + 1 < cLine) : IxR X (fun x y H Q => ∃ a v, x = .ref a ∧ DGet H a y (some v) ∧ Q v H) := by
  intro value slice pins s σ H x y v u Q I rx ry h hs
  obtain ⟨a, z, rfl, g, q⟩ := h
  obtain rfl : v = Value.ref a := rx
  exact tail_any (dict_typeIs I g) PySem.F.slot_dict_getitem.lookup (d_getItem hu I g ry fun w' s3 I3 rw' => ⟨z, H, I3, rw', q⟩) hs
theorem RDs.at {K : PySem.W.Frag} {p : List Addr} {H : Hp} {ds : List D} {vs : List V} {j : Int} {z : D} (r : RDs K p H ds vs) (h : atI ds j = some z) : ∃ v, atI vs j = some v ∧ RD K p H z v := by
  unfold atI at h ⊢
  rw [r.length] at h
  cases e : ixN vs.length j with
  | none => rw [e] at h; cases h
  | some k => rw [e] at h; exact r.get h
theorem dct_rd {K : PySem.W.Frag} {p : List Addr} {H : Hp} {s : Sto} {n : Nat} {v : V} {kvs : List (Key × D)} (hs : RS K p s H) (r : RD K p H (.loc n) v) (h : s[n]? = some (.dct kvs)) : ∃ a us, v = .ref a ∧ H a = some (.dK us) ∧ RF K p H kvs us ∧ p[n]? = some a := by
  cases r with
  | loc h1 =>
    obtain ⟨a1, o1, q1, q2, q3⟩ := hs.mut h
    rw [h1] at q1; cases q1
    cases q3 with
    | dct r => exact ⟨_, _, rfl, q2, r, h1⟩
theorem lok_rd {K : PySem.W.Frag} {p : List Addr} {H : Hp} {s : Sto} {n : Nat} {v : V} {kvs : List (Key × D)} (hs : RS K p s H) (r : RD K p H (.loc n) v) (h : s[n]? = some (.lok kvs)) : ∃ a o us, v = .ref a ∧ H a = some (.frz o (.dK us)) ∧ RF K p H kvs us ∧ p[n]? = some a := by
  cases r with
  | loc h1 =>
    obtain ⟨a1, o1, q1, q2, q3⟩ := hs.mut h
    rw [h1] at q1; cases q1
    cases q3 with
    | lok r => exact ⟨_, _, _, rfl, q2, r, h1⟩
theorem lst_rd {K : PySem.W.Frag} {p : List Addr} {H : Hp} {s : Sto} {n : Nat} {v : V} {ds : List D} (hs : RS K p s H) (r : RD K p H (.loc n) v) (h : s[n]? = some (.lst ds)) : ∃ a us, v = .ref a ∧ H a = some (.lst us) ∧ RDs K p H ds us ∧ p[n]? = some a := by
  cases r with
  | loc h1 =>
    obtain ⟨a1, o1, q1, q2, q3⟩ := hs.mut h
    rw [h1] at q1; cases q1
    cases q3 with
    | lst r => exact ⟨_, _, rfl, q2, r, h1⟩
theorem ix_D (hu : X.A.units + 1 < cLine) : IxR X (fun x y H Q => ∃ p s d e z s', RS X.K p s H ∧ RD X.K p H d x ∧ RD X.K p H e y ∧ gIx d e s = some (z, s') ∧ Fin X.K p H z s' Q) :=
  IxR.imp ((((ix_list (X := X)).or ix_tup).or ix_str).or (ix_dict hu)) fun x y H Q ⟨p, s, d, e, z, s', hs, rx, ry, hg, hf⟩ => by
    cases d with
    | loc n =>
      simp only [gIx] at hg
      split at hg
      · rename_i ds hn
        obtain ⟨a, us, rfl, h1, h2, h3⟩ := lst_rd hs rx hn
        cases ry <;> simp only [] at hg <;> try (cases hg; done)
        simp only [Option.map_eq_some_iff] at hg
        obtain ⟨z1, hz, hq⟩ := hg
        cases hq
        obtain ⟨v, hv, rv⟩ := h2.at hz
        exact .inl (.inl (.inl ⟨a, us, _, v, rfl, rfl, SqL.of h1, hv, hf.now hs rv⟩))
      · rename_i kvs hn
        obtain ⟨a, us, rfl, h1, h2, h3⟩ := dct_rd hs rx hn
        simp only [Option.bind_eq_some_iff, Option.map_eq_some_iff] at hg
        obtain ⟨k, hk, z1, hz, hq⟩ := hg
        cases hq
        obtain ⟨v, hv, rv⟩ := dGet_rd h2 hz
        exact .inr ⟨a, v, rfl, .inl ⟨us, k, .inl h1, keyD_rd ry hk, hv.symm⟩, hf.now hs rv⟩
      · rename_i kvs hn
        obtain ⟨a, o, us, rfl, h1, h2, h3⟩ := lok_rd hs rx hn
        simp only [Option.bind_eq_some_iff, Option.map_eq_some_iff] at hg
        obtain ⟨k, hk, z1, hz, hq⟩ := hg
        cases hq
        obtain ⟨v, hv, rv⟩ := dGet_rd h2 hz
        exact .inr ⟨a, v, rfl, .inl ⟨us, k, .inr ⟨o, h1⟩, keyD_rd ry hk, hv.symm⟩, hf.now hs rv⟩
      · cases hg
    | tup ds =>
      cases rx with
      | tup h1 r1 =>
        cases ry <;> simp only [gIx] at hg <;> try (cases hg; done)
        simp only [Option.map_eq_some_iff] at hg
        obtain ⟨z1, hz, hq⟩ := hg
        cases hq
        obtain ⟨v, hv, rv⟩ := r1.at hz
        exact .inl (.inl (.inr ⟨_, _, _, v, rfl, rfl, h1, hv, hf.now hs rv⟩))
    | str x =>
      cases rx
      cases ry <;> simp only [gIx] at hg <;> try (cases hg; done)
      split at hg
      · rename_i hl
        simp only [Option.map_eq_some_iff] at hg
        obtain ⟨z1, hz, hq⟩ := hg
        cases hq
        exact .inl (.inr ⟨_, _, _, rfl, rfl, hl, hz, hf.now hs (.str _)⟩)
      · cases hg
    | non => simp [gIx] at hg
    | bl b => simp [gIx] at hg
    | int b => simp [gIx] at hg
    | con b => simp [gIx] at hg
theorem de_ix (hu : X.A.units + 1 < cLine) (ha : DE X W a m) (hb : DE X W b n) (hs : PlainIx b := by exact fun _ _ => rfl) : DE X W (.Subscript a b pos) (mBin gIx m n) := PE.imp (pe_ix (ix_D hu) ha hb hs) fun _ _ _ q => tOp_of q
end

/-! ### slices -/
def oI : Option D → Option (Option Int)
  | none => some none
  | some (.int i) => some (some i)
  | _ => none
def gSl (s : Sto) : D → Option Int → Option Int → Option (D × Sto)
  | .tup ds, lo, hi => some (.tup ((ds.drop (HT.sIx ds.length 0 lo)).take (HT.sIx ds.length ds.length hi - HT.sIx ds.length 0 lo)), s)
  | .str x, lo, hi => if x.length ≤ sizeLine then some (.str (cutS x lo hi), s) else none
  | .loc n, lo, hi => match s[n]? with
    | some (.lst ds) => some (.loc s.length, s ++ [.lst ((ds.drop (HT.sIx ds.length 0 lo)).take (HT.sIx ds.length ds.length hi - HT.sIx ds.length 0 lo))])
    | _ => none
  | _, _, _ => none
def mPart (m : Option ME) : Env → Sto → R (Option Int) := fun r s => match m with
  | none => .ok none s
  | some m => (m r s).bind fun d s1 => match d with
    | .int i => .ok (some i) s1
    | _ => .bad
def mSl (m : ME) (lo hi : Option ME) : ME := fun r s => (m r s).bind fun d s1 => (mPart lo r s1).bind fun l s2 => (mPart hi r s2).bind fun h s3 => R.of (gSl s3 d l h)
def tOI (K : PySem.W.Frag) (W : WX) (m : Option ME) : TO := fun t H Q => ∃ p r s, RE K p H r t ∧ RS K p s H ∧ pR K W t p H (mPart m r s) fun _ H' i _ => Q i H'
section
variable {X : Cx} {W : WX} {pos p2 : Pos} {a b : Expr} {m n : ME}
theorem PO.imp {e : Option Expr} {t t' : TO} (h : PO X e t) (g : ∀ σ H Q, t' σ H Q → t σ H Q) : PO X e t' := ⟨fun pins s σ H Q I q => h.run pins s σ H Q I (g σ H Q q)⟩
theorem do_none : PO X none (tOI X.K W none) := PO.imp po_none fun t H Q ⟨p, r, s, he, hs, q⟩ => q p H .refl hs
theorem do_some (h : DE X W a m) : PO X (some a) (tOI X.K W (some m)) := PO.imp (po_some h) fun t H Q ⟨p, r, s, he, hs, q⟩ => by
  refine tE.stepK he hs q fun p1 H1 d v s1 e1 r1 he1 rd q1 => ?_
  cases rd <;> try (exact (show False from q1).elim)
  exact ⟨_, rfl, q1 p1 H1 .refl r1⟩
theorem tOI.stepK {K : PySem.W.Frag} {W : WX} {t : L2.St} {H : Hp} {α : Type} {m : Option ME} {f : Option Int → Sto → R α} {p : List Addr} {r : Env} {s : Sto} {k : List Addr → Hp → α → Sto → Prop} {Q1 : Option Int → Hp → Prop} (he : RE K p H r t) (hs : RS K p s H)
    (h : pR K W t p H ((mPart m r s).bind f) k)
    (g : ∀ p1 H1 b s1, Ex p H p1 H1 → RS K p1 s1 H1 → RE K p1 H1 r t → pR K W t p1 H1 (f b s1) k → Q1 b H1) : tOI K W m t H Q1 :=
  ⟨p, r, s, he, hs, (pR.bind h).imp fun p1 H1 b s1 e1 r1 q => g p1 H1 b s1 e1 r1 (he.mono e1) q⟩
theorem cut_id {ds : List D} {n : Nat} (h : n = ds.length) : (ds.drop 0).take (n - 0) = ds := by subst h; simp
theorem de_slice {lo hi : Option Expr} {ml mh : Option ME} (ha : DE X W a m) (hl : PO X lo (tOI X.K W ml)) (hh : PO X hi (tOI X.K W mh)) : DE X W (.Subscript a (.Slice lo hi none p2) pos) (mSl m ml mh) :=
  PE.imp (pe_slice (((sl_list (X := X)).or sl_tupA).or sl_str) ha hl hh) fun t H Q ⟨p, r, s, he, hs, q⟩ => by
    refine tE.stepK he hs q fun p1 H1 d v s1 e1 r1 he1 rd q1 => ?_
    refine tOI.stepK he1 r1 q1 fun p2 H2 l s2 e2 r2 he2 q2 => ?_
    refine tOI.stepK he2 r2 q2 fun p3 H3 h s3 e3 r3 he3 q3 => ?_
    obtain ⟨z, s', hz, hf⟩ := pR.fin q3
    have rd3 := (rd.mono e2).mono e3
    cases rd3 with
    | tup ht rt =>
      simp only [gSl] at hz
      cases hz
      refine .inl (.inr ⟨_, _, rfl, ht, fun hw => ?_, fun _ q hq => ?_⟩)
      · refine hf.now r3 (.tup ht ?_)
        rw [← rt.length] at hw
        rw [hw.1, hw.2]
        simpa using rt
      · have := hf.tup r3 ((rt.drop (HT.sIx _ 0 l)).take (HT.sIx _ _ h - HT.sIx _ 0 l)) hq
        rw [rt.length] at this
        exact this
    | str x =>
      simp only [gSl] at hz
      split at hz
      · rename_i hl
        cases hz
        exact .inr ⟨x, rfl, hl, hf.now r3 (.str _)⟩
      · cases hz
    | loc h1 =>
      simp only [gSl] at hz
      split at hz
      · rename_i ds hn
        cases hz
        obtain ⟨a, us, e, h1, h2, h3⟩ := lst_rd r3 (.loc h1) hn
        cases e
        refine .inl (.inl ⟨_, us, rfl, SqL.of h1, fun q hq => ?_⟩)
        have := hf.lst r3 ((h2.drop (HT.sIx _ 0 l)).take (HT.sIx _ _ h - HT.sIx _ 0 l)) hq
        rw [h2.length] at this
        exact this
      · cases hz
    | non => simp [gSl] at hz
    | bl b => simp [gSl] at hz
    | int b => simp [gSl] at hz
    | con b => simp [gSl] at hz
end

/-! ### isinstance of built-in types -/
def tyD (s : Sto) : D → Option String
  | .non => some "NoneType"
  | .bl _ => some "bool"
  | .int _ => some "int"
  | .str _ => some "str"
  | .tup _ => some "tuple"
  | .loc n => match s[n]? with
    | some (.lst _) => some "list"
    | some (.dct _) => some "dict"
    | _ => none
  | .con _ => none
def gIsi : GF
  | [d, .con (.ty n)], s => (tyD s d).bind fun t => (kitB t n).map fun b => (.bl b, s)
  | _, _ => none
theorem tyD_rd {K : PySem.W.Frag} {p : List Addr} {H : Hp} {s : Sto} {d : D} {v : V} {t : String} (hs : RS K p s H) (rd : RD K p H d v) (h : tyD s d = some t) : TyX K H v (.type t) := by
  cases rd with
  | non => simp only [tyD] at h; cases h; exact .base .non
  | bl b => simp only [tyD] at h; cases h; exact .base (.bl b)
  | int b => simp only [tyD] at h; cases h; exact .base (.int b)
  | str b => simp only [tyD] at h; cases h; exact .base (.str b)
  | con b => simp [tyD] at h
  | tup h1 r1 =>
    simp only [tyD] at h; cases h
    rcases h1 with h1 | ⟨o, its, n, h1, h2, _⟩
    · rcases h1 with h1 | ⟨o, h1⟩
      · exact .base (.tup h1)
      · exact .fTuple h1
    · exact .kTuple h1 h2
  | loc h1 =>
    simp only [tyD] at h
    split at h
    · rename_i ds hn
      cases h
      obtain ⟨a, us, e, h1, h2, h3⟩ := lst_rd hs (.loc h1) hn
      cases e
      exact .base (.lst h1)
    · rename_i ds hn
      cases h
      obtain ⟨a, us, e, h1, h2, h3⟩ := dct_rd hs (.loc h1) hn
      cases e
      exact .base (.dK h1)
    · cases h
theorem ca_isi {X : Cx} : CallD X (.builtin "isinstance") gIsi := CallR.imp call_isi fun vs H Q ⟨p, s, ds, z, s', hs, rds, hg, hf⟩ => by
  unfold gIsi at hg
  split at hg
  · rename_i d n
    obtain ⟨v, w, rfl, rd, rd2⟩ := two_rd rds
    simp only [Option.bind_eq_some_iff, Option.map_eq_some_iff] at hg
    obtain ⟨t, ht, b, hb, hq⟩ := hg
    cases hq
    cases rd2
    exact ⟨_, _, _, _, _, rfl, .ty n, tyD_rd hs rd ht, kit_ty hb, hf.now hs (.bl _)⟩
  · cases hg
end DL
end
/-! ### DL6 -/
section
set_option linter.all false
set_option maxRecDepth 100000
/-! DL6: targets, statements, loops, comprehensions, a def by its body. -/
namespace DL
open PySem PySem.Spec L2
open PyProof.Rows hiding St

/-! ### targets: names, and tuples of targets; only slots of vs change -/
structure TgOk (K : PySem.W.Frag) (g : TG) (mg : MG) (vs : List Nat) : Prop where
  st : ∀ d r s r' s', mg d r s = .ok r' s' → s' = s
  run : ∀ v t H Q p r s d r', RE K p H r t → RS K p s H → RD K p H d v → mg d r s = .ok r' s → (∀ t', RE K p H r' t' → (∀ j, j ∉ vs → t'[j]? = t[j]?) → t'.length = t.length → Q t' H) → g v t H Q
structure TgsOk (K : PySem.W.Frag) (g : TGs) (mg : List D → Env → Sto → R Env) (vs : List Nat) : Prop where
  st : ∀ d r s r' s', mg d r s = .ok r' s' → s' = s
  run : ∀ us t H Q p r s ds r', RE K p H r t → RS K p s H → RDs K p H ds us → mg ds r s = .ok r' s → (∀ t', RE K p H r' t' → (∀ j, j ∉ vs → t'[j]? = t[j]?) → t'.length = t.length → Q t' H) → g us t H Q
def mgName (i : Nat) : MG := fun d r s => .ok (r.set i (some d)) s
def mgNil : List D → Env → Sto → R Env := fun ds r s => match ds with
  | [] => .ok r s
  | _ => .bad
def mgCons (g : MG) (gs : List D → Env → Sto → R Env) : List D → Env → Sto → R Env := fun ds r s => match ds with
  | d :: ds => (g d r s).bind fun r1 s1 => gs ds r1 s1
  | [] => .bad
def mgTup (n : Nat) (gs : List D → Env → Sto → R Env) : MG := fun d r s => match d with
  | .tup ds => if ds.length = n then gs ds r s else .bad
  | _ => .bad
section
variable {K : PySem.W.Frag} {vs : List Nat}
theorem tg_name {i : Nat} (hi : i ∈ vs) : TgOk K (gName i) (mgName i) vs where
  st := fun d r s r' s' h => by simp only [mgName] at h; cases h; rfl
  run := fun v t H Q p r s d r' he hs rd h q => by
    simp only [mgName] at h; cases h
    refine q _ (he.set rd) (fun j hj => ?_) (by simp)
    have : i ≠ j := fun e => hj (e ▸ hi)
    rw [List.getElem?_set_ne this]
theorem tgs_nil : TgsOk K gNil mgNil vs where
  st := fun d r s r' s' h => by
    cases d <;> simp only [mgNil] at h <;> cases h; rfl
  run := fun us t H Q p r s ds r' he hs rd h q => by
    cases rd with
    | nil => simp only [mgNil] at h; cases h; exact ⟨rfl, q t he (fun _ _ => rfl) rfl⟩
    | cons _ _ => simp [mgNil] at h
theorem tgs_cons {g : TG} {gs : TGs} {mg : MG} {mgs : List D → Env → Sto → R Env} (h1 : TgOk K g mg vs) (h2 : TgsOk K gs mgs vs) : TgsOk K (gCons g gs) (mgCons mg mgs) vs where
  st := fun d r s r' s' h => by
    cases d with
    | nil => simp [mgCons] at h
    | cons d ds =>
      simp only [mgCons] at h
      cases hq : mg d r s with
      | ok r1 s1 => rw [hq] at h; exact (h2.st _ _ _ _ _ h).trans (h1.st _ _ _ _ _ hq)
      | exc _ _ => rw [hq] at h; cases h
      | bad => rw [hq] at h; cases h
  run := fun us t H Q p r s ds r' he hs rd h q => by
    cases rd with
    | nil => simp [mgCons] at h
    | cons rv rr =>
      simp only [mgCons] at h
      cases hq : mg _ r s with
      | ok r1 s1 =>
        rw [hq] at h
        simp only [R.bind_ok] at h
        have e1 := h1.st _ _ _ _ _ hq
        subst e1
        refine ⟨_, _, rfl, h1.run _ t H _ p r s1 _ r1 he hs rv hq fun t1 he1 k1 l1 => ?_⟩
        refine h2.run _ t1 H Q p r1 s1 _ r' he1 hs rr h fun t2 he2 k2 l2 => ?_
        exact q t2 he2 (fun j hj => (k2 j hj).trans (k1 j hj)) (l2.trans l1)
      | exc _ _ => rw [hq] at h; cases h
      | bad => rw [hq] at h; cases h
theorem tg_tup {n : Nat} {gs : TGs} {mgs : List D → Env → Sto → R Env} (h : TgsOk K gs mgs vs) : TgOk K (gTup K n gs) (mgTup n mgs) vs where
  st := fun d r s r' s' e => by
    cases d <;> simp only [mgTup] at e <;> try (cases e; done)
    split at e
    · exact h.st _ _ _ _ _ e
    · cases e
  run := fun v t H Q p r s d r' he hs rd e q => by
    cases rd <;> simp only [mgTup] at e <;> try (cases e; done)
    split at e
    · rename_i h1 r1 hl
      exact ⟨_, _, rfl, h1, by rw [← r1.length]; exact hl, h.run _ t H Q p r s _ r' he hs r1 e q⟩
    · cases e
end

/-! ### small statements -/
def mAsg (m : ME) (g : MG) : MS := fun r s => match m r s with
  | .ok d s1 => match g d r s1 with
    | .ok r1 s2 => .nx r1 s2
    | _ => .bad
  | .exc e s1 => .exc e r s1
  | .bad => .bad
def mSeq (m n : MS) : MS := fun r s => match m r s with
  | .nx r1 s1 => n r1 s1
  | x => x
def mNext : MS := fun r s => .nx r s
def mBrk : MS := fun r s => .bk r s
def mCt : MS := fun r s => .ct r s
def mDrop (m : ME) : MS := fun r s => match m r s with
  | .ok _ s1 => .nx r s1
  | .exc e s1 => .exc e r s1
  | .bad => .bad
def mRet (m : ME) : MS := fun r s => match m r s with
  | .ok d s1 => .rt d s1
  | .exc e s1 => .exc e r s1
  | .bad => .bad
def mIf (c : MT) (m n : MS) : MS := fun r s => match c r s with
  | .ok true s1 => m r s1
  | .ok false s1 => n r s1
  | .exc e s1 => .exc e r s1
  | .bad => .bad
def mNever : MS := fun _ _ => .bad
section
variable {X : Cx} {W : WX} {pos : Pos} {e : Expr} {m : ME} {st : Stmt} {rest : List Stmt} {u w : MS}
theorem dss_nil : DSs X W [] mNext := PSs.imp pss_nil fun Z t H ⟨p, r, s, he, hs, q⟩ => q p H t .refl hs he
theorem dss_cons (h1 : DS X W st u) (h2 : DSs X W rest w) : DSs X W (st :: rest) (mSeq u w) := PSs.imp (pss_cons h1 h2) fun Z t H ⟨p, r, s, he, hs, q⟩ => by
  refine ⟨p, r, s, he, hs, ?_⟩
  simp only [mSeq] at q
  cases hq : u r s with
  | nx r1 s1 => simp only [hq] at q; exact fun p' H' t' e' rs' re' => ⟨p', r1, s1, re', rs', pS.mono e' q⟩
  | rt _ _ => simp only [hq] at q; exact q
  | bk _ _ => simp only [hq] at q; exact q
  | ct _ _ => simp only [hq] at q; exact q
  | exc _ _ _ => simp only [hq] at q; exact q
  | bad => simp only [hq] at q; exact q
theorem dss_one (h1 : DS X W st u) : DSs X W [st] u := pss_one h1
theorem ds_pass : DS X W (.Pass pos) mNext := PS.imp ps_pass fun Z t H ⟨p, r, s, he, hs, q⟩ => q p H t .refl hs he
theorem ds_break : DS X W (.Break pos) mBrk := PS.imp ps_break fun Z t H ⟨p, r, s, he, hs, q⟩ => q p H t .refl hs he
theorem ds_continue : DS X W (.Continue pos) mCt := PS.imp ps_continue fun Z t H ⟨p, r, s, he, hs, q⟩ => q p H t .refl hs he
theorem ds_never : DS X W st mNever := PS.imp ps_never fun Z t H ⟨p, r, s, he, hs, q⟩ => q
theorem dss_never {sts : List Stmt} : DSs X W sts mNever := PSs.imp pss_never fun Z t H ⟨p, r, s, he, hs, q⟩ => q
theorem ds_expr (he : DE X W e m) (hs : swapsWith e none pos.line X.env = pure false := by rfl) : DS X W (.Expr e pos) (mDrop m) := PS.imp (ps_expr he hs) fun Z t H ⟨p, r, s, he, hs, q⟩ => by
  refine ⟨p, r, s, he, hs, ?_⟩
  simp only [mDrop] at q
  cases hq : m r s with
  | ok d s1 => simp only [hq] at q; exact fun p' H' e' rs' v _ => q p' H' t e' rs' (he.mono e')
  | exc x s1 => simp only [hq] at q; exact fun p' H' d e' rs' rx => q p' H' t d e' rs' (he.mono e') rx
  | bad => simp only [hq] at q; exact q
theorem ds_ret (he : DE X W e m) : DS X W (.Return (some e) pos) (mRet m) := PS.imp (ps_ret he) fun Z t H ⟨p, r, s, he, hs, q⟩ => by
  refine ⟨p, r, s, he, hs, ?_⟩
  simp only [mRet] at q
  cases hq : m r s with
  | ok d s1 => simp only [hq] at q; exact fun p' H' e' rs' v rd => q p' H' v e' rs' rd
  | exc x s1 => simp only [hq] at q; exact fun p' H' d e' rs' rx => q p' H' t d e' rs' (he.mono e') rx
  | bad => simp only [hq] at q; exact q
theorem ds_retN : DS X W (.Return none pos) (mRet (mC .non)) := PS.imp ps_retN fun Z t H ⟨p, r, s, he, hs, q⟩ => q p H .non .refl hs .non
theorem ds_if {c : Expr} {a b : List Stmt} {mc : MT} (hc : DT X W c mc) (ha : DSs X W a u) (hb : DSs X W b w) : DS X W (.If c a b pos) (mIf mc u w) := PS.imp (ps_if hc ha hb) fun Z t H ⟨p, r, s, he, hs, q⟩ => by
  refine ⟨p, r, s, he, hs, ?_⟩
  simp only [mIf] at q
  cases hq : mc r s with
  | ok d s1 =>
    cases d with
    | true => simp only [hq] at q; exact fun p' H' e' rs' => iteT ⟨p', r, s1, he.mono e', rs', pS.mono e' q⟩
    | false => simp only [hq] at q; exact fun p' H' e' rs' => iteF ⟨p', r, s1, he.mono e', rs', pS.mono e' q⟩
  | exc x s1 => simp only [hq] at q; exact fun p' H' d e' rs' rx => q p' H' t d e' rs' (he.mono e') rx
  | bad => simp only [hq] at q; exact q
/-- target = e -/
theorem tAsg_of {g : TG} {mg : MG} {vs : List Nat} {Z : Ends} {t : L2.St} {H : Hp} (hg : TgOk X.K g mg vs) (q : tS X.K W (mAsg m mg) Z t H) : tAsg (tE X.K W m) g Z t H := by
  obtain ⟨p, r, s, he, hs, q⟩ := q
  refine ⟨p, r, s, he, hs, ?_⟩
  simp only [mAsg] at q
  cases hq : m r s with
  | ok d s1 =>
    simp only [hq] at q
    intro p' H' e' rs' v rd
    cases hq2 : mg d r s1 with
    | ok r1 s2 =>
      simp only [hq2] at q
      have e2 := hg.st _ _ _ _ _ hq2
      subst e2
      exact hg.run v t H' _ p' r s2 d r1 (he.mono e') rs' rd hq2 fun t' he' _ _ => q p' H' t' e' rs' he'
    | exc _ _ => simp only [hq2] at q; exact q.elim
    | bad => simp only [hq2] at q; exact q.elim
  | exc x s1 => simp only [hq] at q; exact fun p' H' d e' rs' rx => q p' H' t d e' rs' (he.mono e') rx
  | bad => simp only [hq] at q; exact q
theorem ds_asg {tg : Expr} {g : TG} {mg : MG} {vs : List Nat} (he : DE X W e m) (hg : PG X tg g) (tk : TgOk X.K g mg vs) (hs : swapsWithSole [tg] e pos.line X.env = pure false := by rfl) (hw : swappedStores [tg] e X.env = pure none := by rfl)
    (h1 : (assignEach [tg] X.env).map (·.2) = [assign tg X.env] := by rfl) : DS X W (.Assign [tg] e pos) (mAsg m mg) := PS.imp (ps_asg he hg hs hw h1) fun _ _ _ q => tAsg_of tk q
theorem ds_set {i : Nat} {x : Str} {pos' : Pos} (hN : X.N.Nodup) (hi : X.N[i]? = some x) (hx : Loc X.env.scope x) (he : DE X W e m) (hs : swapsWith e (some (.Name x pos')) pos.line X.env = pure false := by rfl)
    (hf : X.fn x = true ∨ X.env.scope.names.lookup x = some .local := by first | exact .inl rfl | exact .inr rfl | assumption) : DS X W (.Assign [.Name x pos'] e pos) (mAsg m (mgName i)) :=
  PS.imp (ps_set hN hi hx he hs hf) fun _ _ _ q => tAsg_of (vs := [i]) (tg_name (by simp)) q
/-- a, b = x, y -/
def mPar (i j : Nat) (ma : MA) : MS := fun r s => match ma r s with
  | .ok [d, e] s1 => .nx ((r.set i (some d)).set j (some e)) s1
  | .ok _ _ => .bad
  | .exc e s1 => .exc e r s1
  | .bad => .bad
theorem ds_par {i j : Nat} {x y : Str} {a b : Expr} {ma : MA} {px py pt : Pos} {kt k2 pt2} (hc : X.calm = true) (hN : X.N.Nodup) (hi : X.N[i]? = some x) (hj : X.N[j]? = some y) (hij : i ≠ j)
    (hx : X.env.scope.names.lookup x = some .local) (hy : X.env.scope.names.lookup y = some .local) (ha : DA X W [a, b] ma)
    (hw : swappedStores [.Tuple [.Name x px, .Name y py] kt pt] (.Tuple [a, b] k2 pt2) X.env = pure (some [x, y]))
    (hs : swapsWithSole [.Tuple [.Name x px, .Name y py] kt pt] (.Tuple [a, b] k2 pt2) pos.line X.env = pure false := by rfl) :
    DS X W (.Assign [.Tuple [.Name x px, .Name y py] kt pt] (.Tuple [a, b] k2 pt2) pos) (mPar i j ma) := PS.imp (ps_par hc hN hi hj hij hx hy ha hw hs) fun Z t H ⟨p, r, s, he, hs, q⟩ => by
  refine ⟨p, r, s, he, hs, ?_⟩
  simp only [mPar] at q
  cases hq : ma r s with
  | ok ds s1 =>
    intro p' H' e' rs' vs rds
    cases rds with
    | nil => simp only [hq] at q; exact q.elim
    | cons r1 rr =>
      cases rr with
      | nil => simp only [hq] at q; exact q.elim
      | cons r2 rr =>
        cases rr with
        | cons _ _ => simp only [hq] at q; exact q.elim
        | nil =>
          simp only [hq] at q
          exact ⟨_, _, rfl, q p' H' _ e' rs' (((he.mono e').set r1).set r2)⟩
  | exc x s1 => simp only [hq] at q; exact fun p' H' d e' rs' rx => q p' H' t d e' rs' (he.mono e') rx
  | bad => simp only [hq] at q; exact q
end

/-! ### what is walked -/
open Classical in
noncomputable def guard (gs : List (Nat × Ob)) (s : Sto) : Bool := decide (∀ q ∈ gs, s[q.1]? = some q.2)
theorem guard_iff {gs : List (Nat × Ob)} {s : Sto} : guard gs s = true ↔ ∀ q ∈ gs, s[q.1]? = some q.2 := by simp [guard]
abbrev MI := Env → Sto → R (List D × List (Nat × Ob))
/-- J gives these data as long as the guards hold -/
def Str8 (K : PySem.W.Frag) (J : It) (p1 : List Addr) (H1 : Hp) (ds : List D) (gs : List (Nat × Ob)) : Prop := ∀ p H s, Ex p1 H1 p H → RS K p s H → guard gs s = true →
  (∀ i d, ds[i]? = some d → J.go i H ∧ ∀ x H', J.yld i H x H' → Ex p H p H' ∧ RS K p s H' ∧ RD K p H' d x) ∧ J.stop ds.length H
def iD (K : PySem.W.Frag) (W : WX) (mi : MI) : TI := fun t H Q => ∃ p r s, RE K p H r t ∧ RS K p s H ∧ pR K W t p H (mi r s) fun p' H' q _ => ∀ J, Str8 K J p' H' q.1 q.2 → Q J H'
abbrev DI (X : Cx) (W : WX) (tg e : Expr) (mi : MI) : Prop := PI X tg e (iD X.K W mi)
theorem PI.imp {X : Cx} {tg e : Expr} {t t' : TI} (h : PI X tg e t) (g : ∀ σ H Q, t' σ H Q → t σ H Q) : PI X tg e t' := ⟨fun pins s σ H Q I q => h.run pins s σ H Q I (g σ H Q q)⟩
theorem PI.or {X : Cx} {tg e : Expr} {t t' : TI} (h : PI X tg e t) (h' : PI X tg e t') : PI X tg e (fun σ H Q => t σ H Q ∨ t' σ H Q) := ⟨fun pins s σ H Q I q => q.elim (fun z => h.run pins s σ H Q I z) fun z => h'.run pins s σ H Q I z⟩
/-- the items of a list or tuple -/
def mIt (m : ME) : MI := fun r s => (m r s).bind fun d s1 => match d with
  | .tup ds => .ok (ds, []) s1
  | .loc n => (match s1[n]? with
    | some (.lst ds) => .ok (ds, [(n, .lst ds)]) s1
    | _ => .bad)
  | _ => .bad
theorem str_lst {K : PySem.W.Frag} {p1 : List Addr} {H1 : Hp} {n : Nat} {a : Addr} {ds : List D} (hn : p1[n]? = some a) : Str8 K (Itl K a) p1 H1 ds [(n, .lst ds)] := fun p H s ex rs g => by
  have e := guard_iff.mp g (n, .lst ds) (by simp)
  obtain ⟨a', o, q1, q2, q3⟩ := rs.mut e
  rw [ex.get hn] at q1; cases q1
  cases q3 with
  | lst r =>
    refine ⟨fun i d hd => ?_, ⟨_, SqL.of q2, by rw [← r.length]; exact Nat.le_refl _⟩⟩
    obtain ⟨v, hv, rv⟩ := r.get hd
    refine ⟨⟨_, v, SqL.of q2, hv⟩, fun x H' y => ?_⟩
    obtain ⟨rfl, y⟩ := y
    have := y _ (SqL.of q2)
    rw [hv] at this; cases this
    exact ⟨.refl, rs, rv⟩
theorem str_tup {K : PySem.W.Frag} {p1 : List Addr} {H1 : Hp} {a : Addr} {ds : List D} {vs : List V} (ht : SqT K H1 a vs) (rt : RDs K p1 H1 ds vs) : Str8 K (Itt K a) p1 H1 ds [] := fun p H s ex rs g => by
  refine ⟨fun i d hd => ?_, ⟨vs, ex.sqt ht, by rw [← rt.length]; exact Nat.le_refl _⟩⟩
  obtain ⟨v, hv, rv⟩ := rt.get hd
  refine ⟨⟨vs, v, ex.sqt ht, hv⟩, fun x H' y => ?_⟩
  obtain ⟨rfl, y⟩ := y
  have := y _ (ex.sqt ht)
  rw [hv] at this; cases this
  exact ⟨.refl, rs, rv.mono ex⟩
theorem str_rng {K : PySem.W.Frag} {p1 : List Addr} {H1 : Hp} {lo : Int} {n : Nat} : Str8 K (Itr lo n) p1 H1 ((List.range n).map fun (i : Nat) => D.int (lo + i)) [] := fun p H s ex rs g => by
  refine ⟨fun i d hd => ?_, ?_⟩
  · simp only [List.getElem?_map, Option.map_eq_some_iff] at hd
    obtain ⟨j, hj, rfl⟩ := hd
    have hl := (List.getElem?_eq_some_iff.mp hj)
    obtain ⟨h1, h2⟩ := hl
    simp at h1 h2
    subst h2
    refine ⟨h1, fun x H' y => ?_⟩
    obtain ⟨rfl, rfl⟩ := y
    exact ⟨.refl, rs, .int _⟩
  · show n ≤ _; simp
section
variable {X : Cx} {W : WX} {pos : Pos} {tg e : Expr} {m : ME}
theorem di_seq (h : DE X W e m) : DI X W tg e (mIt m) := PI.imp (PI.or (pi_list h) (pi_tup h)) fun t H Q ⟨p, r, s, he, hs, q⟩ => by
  cases hq : m r s with
  | ok d s1 =>
    simp only [mIt, hq, R.bind_ok] at q
    cases d with
    | tup ds =>
      refine .inr ⟨p, r, s, he, hs, ?_⟩
      rw [hq]
      intro p' H' e' rs' v rd
      cases rd with
      | tup h1 r1 => exact ⟨_, rfl, ⟨_, h1⟩, q p' H' e' rs' _ (str_tup h1 r1)⟩
    | loc n =>
      simp only at q
      split at q
      · rename_i ds hn
        refine .inl ⟨p, r, s, he, hs, ?_⟩
        rw [hq]
        intro p' H' e' rs' v rd
        obtain ⟨a, us, rfl, h1, h2, h3⟩ := lst_rd rs' rd hn
        exact ⟨a, rfl, ⟨us, SqL.of h1⟩, q p' H' e' rs' _ (str_lst h3)⟩
      · exact q.elim
    | _ => exact (show False from q).elim
  | exc x s1 =>
    simp only [mIt, hq, R.bind_exc] at q
    exact .inl ⟨p, r, s, he, hs, by rw [hq]; exact q⟩
  | bad => simp only [mIt, hq, R.bind_bad] at q; exact q.elim
/-- range(n), range(a, b) -/
def mRg1 (m : ME) : MI := fun r s => (m r s).bind fun d s1 => match d with
  | .int j => if -(2 ^ 62) ≤ j ∧ j < 2 ^ 62 then .ok ((List.range j.toNat).map fun (i : Nat) => D.int (0 + i), []) s1 else .bad
  | _ => .bad
def mRg2 (m n : ME) : MI := fun r s => (m r s).bind fun d s1 => (n r s1).bind fun e s2 => match d, e with
  | .int i, .int j => if -(2 ^ 62) ≤ i ∧ i < 2 ^ 62 ∧ -(2 ^ 62) ≤ j ∧ j < 2 ^ 62 then .ok ((List.range (j - i).toNat).map fun (k : Nat) => D.int (i + k), []) s2 else .bad
  | _, _ => .bad
theorem di_rg1 {a : Expr} {p : Pos} (hg : Gl X "range") (hm : X.mg "range" = none) (ha : DE X W a m) (hs : starEach [a] X.env = [(false, eval a X.env)] := by rfl) : DI X W tg (.Call (.Name "range" p) [a] [] pos) (mRg1 m) :=
  PI.imp (pi_range1 hg hm (pa_cons ha pa_nil (by rw [hs]; rfl)) hs) fun t H Q ⟨p, r, s, he, hs, q⟩ => by
    refine tE.stepK he hs q fun p1 H1 d v s1 e1 r1 he1 rd q1 => ?_
    cases rd <;> try (exact (show False from q1).elim)
    simp only at q1
    split at q1
    · rename_i hc
      exact ⟨_, rfl, hc.1, hc.2, q1 p1 H1 .refl r1 _ str_rng⟩
    · exact q1.elim
theorem di_rg2 {a b : Expr} {n : ME} {p : Pos} (hg : Gl X "range") (hm : X.mg "range" = none) (ha : DE X W a m) (hb : DE X W b n) (hs : starEach [a, b] X.env = [(false, eval a X.env), (false, eval b X.env)] := by rfl) (hs2 : starEach [b] X.env = [(false, eval b X.env)] := by rfl) :
    DI X W tg (.Call (.Name "range" p) [a, b] [] pos) (mRg2 m n) :=
  PI.imp (pi_range2 hg hm (pa_cons ha (pa_cons hb pa_nil (by rw [hs2]; rfl)) (by rw [hs, hs2])) hs hs2) fun t H Q ⟨p, r, s, he, hs, q⟩ => by
    refine tE.stepK he hs q fun p1 H1 d v s1 e1 r1 he1 rd q1 => ?_
    refine tE.stepK he1 r1 q1 fun p2 H2 e w s2 e2 r2 he2 rd2 q2 => ?_
    cases rd <;> try (exact (show False from q2).elim)
    cases rd2 <;> try (exact (show False from q2).elim)
    simp only at q2
    split at q2
    · rename_i hc
      exact ⟨_, _, rfl, hc, q2 p2 H2 .refl r2 _ str_rng⟩
    · exact q2.elim
end

/-! ### for -/
noncomputable def mForGo (gs : List (Nat × Ob)) (tg : MG) (body : MS) : List D → Env → Sto → S
  | [], r, s => if guard gs s then .nx r s else .bad
  | d :: ds, r, s => if guard gs s then (match tg d r s with
    | .ok r1 s1 => (match body r1 s1 with
      | .nx r2 s2 => mForGo gs tg body ds r2 s2
      | .ct r2 s2 => mForGo gs tg body ds r2 s2
      | .bk r2 s2 => .nx r2 s2
      | .rt d s2 => .rt d s2
      | .exc e r2 s2 => .exc e r2 s2
      | .bad => .bad)
    | _ => .bad) else .bad
noncomputable def mFor (mi : MI) (tg : MG) (body : MS) : MS := fun r s => match mi r s with
  | .ok (ds, gs) s1 => mForGo gs tg body ds r s1
  | .exc e s1 => .exc e r s1
  | .bad => .bad
section
variable {X : Cx} {W : WX} {pos : Pos} {tg iter : Expr} {g : TG} {mg : MG} {vs : List Nat} {mi : MI} {body : List Stmt} {mb : MS}
theorem ds_for (po : PassesOwn (model X.prog X.w) X.A X.env X.xe) (hc : X.calm = true) (hi : DI X W tg iter mi) (hg : PG X tg g) (tk : TgOk X.K g mg vs) (hb : DSs X W body mb)
    (hs : ∀ x, foldedSetIterable iter X.env x = pure x := by intro _; rfl) : DS X W (.For tg iter body [] pos) (mFor mi mg mb) := PS.imp (ps_for po hc hi hg hb hs) fun Z t H ⟨p, r, s, he, hs, q⟩ => by
  refine ⟨p, r, s, he, hs, ?_⟩
  simp only [mFor] at q
  cases hq : mi r s with
  | exc x s1 => simp only [hq] at q; exact fun p' H' d e' rs' rx => q p' H' t d e' rs' (he.mono e') rx
  | bad => simp only [hq] at q; exact q
  | ok dg s1 =>
    obtain ⟨ds, gs⟩ := dg
    simp only [hq] at q
    intro p1 H1 e1 rs1 J str
    refine ⟨fun i m t' H' => ∃ p' r' s', m = ds.length - i ∧ i ≤ ds.length ∧ Ex p1 H1 p' H' ∧ RS X.K p' s' H' ∧ RE X.K p' H' r' t' ∧ pS X.K W Z p' H' (mForGo gs mg mb (ds.drop i) r' s'),
      ⟨ds.length, p1, r, s1, by simp, Nat.zero_le _, .refl, rs1, he.mono e1, pS.mono e1 q⟩, ?_⟩
    rintro i m t' H' ⟨p', r', s', rfl, hi, ex, rs, re, q⟩
    by_cases hlt : i < ds.length
    · have hd : ds[i]? = some ds[i] := by simp [hlt]
      have hdrop : ds.drop i = ds[i] :: ds.drop (i + 1) := List.drop_eq_getElem_cons hlt
      rw [hdrop] at q
      simp only [mForGo] at q
      split at q
      · rename_i hgd
        obtain ⟨hgo, hy⟩ := (str p' H' s' ex rs hgd).1 i _ hd
        refine .inr ⟨hgo, fun t2 H2 => ∃ p' r' s', Ex p1 H1 p' H2 ∧ RS X.K p' s' H2 ∧ RE X.K p' H2 r' t2 ∧ pS X.K W Z p' H2 (mForGo gs mg mb (ds.drop (i + 1)) r' s'), ?_, ?_⟩
        · rintro t2 H2 ⟨p2, r2, s2, ex2, rs2, re2, q2⟩
          exact ⟨ds.length - (i + 1), by omega, p2, r2, s2, rfl, hlt, ex2, rs2, re2, q2⟩
        · intro x H2 y
          obtain ⟨ex2, rs2, rd2⟩ := hy x H2 y
          cases hq2 : mg ds[i] r' s' with
          | exc _ _ => simp only [hq2] at q; exact q.elim
          | bad => simp only [hq2] at q; exact q.elim
          | ok r1 s2 =>
            simp only [hq2] at q
            have es := tk.st _ _ _ _ _ hq2
            subst es
            refine tk.run x t' H2 _ p' r' s2 _ r1 (re.mono ex2) rs2 rd2 hq2 fun t3 he3 _ _ => ?_
            refine ⟨p', r1, s2, he3, rs2, ?_⟩
            have q3 := pS.mono ex2 q
            cases hq3 : mb r1 s2 with
            | nx r4 s4 => simp only [hq3] at q3; exact fun p5 H5 t5 e5 rs5 re5 => ⟨p5, r4, s4, (ex.trans ex2).trans e5, rs5, re5, pS.mono e5 q3⟩
            | ct r4 s4 => simp only [hq3] at q3; exact fun p5 H5 t5 e5 rs5 re5 => ⟨p5, r4, s4, (ex.trans ex2).trans e5, rs5, re5, pS.mono e5 q3⟩
            | bk r4 s4 => simp only [hq3] at q3; exact q3
            | rt d s4 => simp only [hq3] at q3; exact q3
            | exc x r4 s4 => simp only [hq3] at q3; exact q3
            | bad => simp only [hq3] at q3; exact q3
      · exact q.elim
    · have hi' : i = ds.length := by omega
      subst hi'
      rw [List.drop_length] at q
      simp only [mForGo] at q
      split at q
      · rename_i hgd
        exact .inl ⟨(str p' H' s' ex rs hgd).2, q p' H' t' .refl rs re⟩
      · exact q.elim
end

/-! ### while: so many turns -/
def mWhN (c : MT) (body : MS) : Nat → Env → Sto → Option S
  | 0, _, _ => none
  | k + 1, r, s => match c r s with
    | .ok true s1 => (match body r s1 with
      | .nx r2 s2 => mWhN c body k r2 s2
      | .ct r2 s2 => mWhN c body k r2 s2
      | .bk r2 s2 => some (.nx r2 s2)
      | .rt d s2 => some (.rt d s2)
      | .exc e r2 s2 => some (.exc e r2 s2)
      | .bad => some .bad)
    | .ok false s1 => some (.nx r s1)
    | .exc e s1 => some (.exc e r s1)
    | .bad => some .bad
open Classical in
noncomputable def mWh (c : MT) (body : MS) : MS := fun r s => if h : ∃ k x, mWhN c body k r s = some x then Classical.choose (Classical.choose_spec h) else .bad
theorem mWhN_mono {c : MT} {body : MS} : ∀ {k : Nat} {r : Env} {s : Sto} {x : S}, mWhN c body k r s = some x → mWhN c body (k + 1) r s = some x
  | 0, _, _, _, h => by simp [mWhN] at h
  | k + 1, r, s, x, h => by
    rw [mWhN] at h ⊢
    cases hc : c r s with
    | ok b s1 =>
      cases b with
      | true =>
        simp only [hc] at h ⊢
        cases hb : body r s1 with
        | nx r2 s2 => simp only [hb] at h ⊢; exact mWhN_mono h
        | ct r2 s2 => simp only [hb] at h ⊢; exact mWhN_mono h
        | bk _ _ => simp only [hb] at h ⊢; exact h
        | rt _ _ => simp only [hb] at h ⊢; exact h
        | exc _ _ _ => simp only [hb] at h ⊢; exact h
        | bad => simp only [hb] at h ⊢; exact h
      | false => simp only [hc] at h ⊢; exact h
    | exc _ _ => simp only [hc] at h ⊢; exact h
    | bad => simp only [hc] at h ⊢; exact h
theorem mWhN_le {c : MT} {body : MS} {k j : Nat} {r : Env} {s : Sto} {x : S} (h : mWhN c body k r s = some x) (hk : k ≤ j) : mWhN c body j r s = some x := by
  induction hk with
  | refl => exact h
  | step _ ih => exact mWhN_mono ih
/-- the value by any number of turns that is enough -/
theorem mWh_eq {c : MT} {body : MS} {k : Nat} {r : Env} {s : Sto} {x : S} (h : mWhN c body k r s = some x) : mWh c body r s = x := by
  unfold mWh
  have hx : ∃ k x, mWhN c body k r s = some x := ⟨k, x, h⟩
  rw [dif_pos hx]
  have e := Classical.choose_spec (Classical.choose_spec hx)
  have e1 := mWhN_le e (Nat.le_max_left (Classical.choose hx) k)
  have e2 := mWhN_le h (Nat.le_max_right (Classical.choose hx) k)
  rw [e1] at e2
  exact Option.some.inj e2
section
variable {X : Cx} {W : WX} {pos : Pos} {c : Expr} {mc : MT} {body : List Stmt} {mb : MS}
theorem ds_while (po : PassesOwn (model X.prog X.w) X.A X.env X.xe) (hc : DT X W c mc) (hb : DSs X W body mb) : DS X W (.While c body [] pos) (mWh mc mb) := PS.imp (ps_while po hc hb) fun Z t H ⟨p, r, s, he, hs, q⟩ => by
  by_cases hx : ∃ k x, mWhN mc mb k r s = some x
  · obtain ⟨k, x, hk⟩ := hx
    rw [mWh_eq hk] at q
    refine ⟨fun m t' H' => ∃ p' r' s' x, mWhN mc mb m r' s' = some x ∧ RS X.K p' s' H' ∧ RE X.K p' H' r' t' ∧ pS X.K W Z p' H' x, ⟨k, p, r, s, x, hk, hs, he, q⟩, ?_⟩
    rintro m t' H' ⟨p', r', s', x, hm, rs, re, q⟩
    cases m with
    | zero => simp [mWhN] at hm
    | succ m =>
      rw [mWhN] at hm
      refine ⟨p', r', s', re, rs, ?_⟩
      cases hq : mc r' s' with
      | ok b s1 =>
        cases b with
        | true =>
          simp only [hq] at hm
          intro p2 H2 e2 rs2
          refine iteT ?_
          refine ⟨fun t3 H3 => ∃ p' r' s' x, mWhN mc mb m r' s' = some x ∧ RS X.K p' s' H3 ∧ RE X.K p' H3 r' t3 ∧ pS X.K W Z p' H3 x, fun t3 H3 h3 => ⟨m, Nat.lt_succ_self _, h3⟩, p2, r', s1, re.mono e2, rs2, ?_⟩
          cases hb : mb r' s1 with
          | nx r4 s4 => simp only [hb] at hm; exact fun p5 H5 t5 e5 rs5 re5 => ⟨p5, r4, s4, x, hm, rs5, re5, pS.mono (e2.trans e5) q⟩
          | ct r4 s4 => simp only [hb] at hm; exact fun p5 H5 t5 e5 rs5 re5 => ⟨p5, r4, s4, x, hm, rs5, re5, pS.mono (e2.trans e5) q⟩
          | bk r4 s4 => simp only [hb] at hm; cases hm; exact pS.mono e2 q
          | rt d s4 => simp only [hb] at hm; cases hm; exact pS.mono e2 q
          | exc x r4 s4 => simp only [hb] at hm; cases hm; exact pS.mono e2 q
          | bad => simp only [hb] at hm; cases hm; exact q
        | false =>
          simp only [hq] at hm
          cases hm
          intro p2 H2 e2 rs2
          refine iteF ?_
          exact q p2 H2 t' e2 rs2 (re.mono e2)
      | exc x s1 =>
        simp only [hq] at hm
        cases hm
        exact fun p2 H2 d e2 rs2 rx => q p2 H2 t' d e2 rs2 (re.mono e2) rx
      | bad => simp only [hq] at hm; cases hm; exact q
  · have : mWh mc mb r s = .bad := by unfold mWh; rw [dif_neg hx]
    rw [this] at q
    exact q.elim
end
end DL
end
/-! ### DL7 -/
section
set_option linter.all false
set_option maxRecDepth 100000
/-! DL7: comprehensions, locks. -/
namespace DL
open PySem PySem.Spec L2
open PyProof.Rows hiding St

def del (H : Hp) (a : Addr) : Hp := fun b => if b = a then none else H b
theorem del_ne {H : Hp} {a b : Addr} (h : b ≠ a) : del H a b = H b := by unfold del; rw [if_neg h]
theorem del_same {H : Hp} {a : Addr} : del H a a = none := by unfold del; rw [if_pos rfl]
theorem del_upd {H : Hp} {a : Addr} {o : HO} : del (upd H a o) a = del H a := by
  funext b; unfold del upd; split <;> rfl
theorem del_free {H : Hp} {a : Addr} (h : H a = none) : del H a = H := by
  funext b
  by_cases e : b = a
  · rw [e, del_same, h]
  · rw [del_ne e]
theorem upd_del {H : Hp} {a : Addr} {o : HO} (h : H a = some o) : upd (del H a) a o = H := by
  funext b
  by_cases e : b = a
  · rw [e, upd_same, h]
  · rw [upd_ne e, del_ne e]
section
variable {K : PySem.W.Frag} {p p' : List Addr} {H H' : Hp} {s : Sto} {a : Addr}
theorem del_ne_of {b : Addr} {o : HO} (h : del H a b = some o) : b ≠ a ∧ H b = some o := by
  by_cases e : b = a
  · rw [e, del_same] at h; cases h
  · rw [del_ne e] at h; exact ⟨e, h⟩
theorem rd_del {b : Addr} {u : HO} (h : Rd (del H a) b u) : Rd H b u := by
  rcases h with h | ⟨o, h⟩
  · exact .inl (del_ne_of h).2
  · exact .inr ⟨o, (del_ne_of h).2⟩
theorem ex0_add : Ex0 p (del H a) p H := ⟨⟨[], by simp⟩, fun b xs h => rd_del h⟩
theorem ex0_del {o : HO} (h : H a = some o) (n : NoTup0 o) : Ex0 p H p (del H a) := ⟨⟨[], by simp⟩, fun b xs r => by
  have hb : b ≠ a := by
    rintro rfl
    rcases r with r | ⟨u, r⟩
    · rw [h] at r; cases r; exact n
    · rw [h] at r; cases r; exact n
  rcases r with r | ⟨u, r⟩
  · exact .inl (by rw [del_ne hb]; exact r)
  · exact .inr ⟨u, by rw [del_ne hb]; exact r⟩⟩
theorem RS.del {o : HO} (r : RS K p s H) (h : H a = some o) (n : NoTup0 o) (hn : a ∉ p) : RS K p s (del H a) := by
  refine ⟨r.len, r.nd, fun k ob b e1 e2 => ?_⟩
  obtain ⟨u, h1, h2⟩ := r.ob k ob b e1 e2
  have : b ≠ a := by
    rintro rfl
    exact hn (List.mem_of_getElem? e2)
  exact ⟨u, by rw [del_ne this]; exact h1, h2.mono0 (ex0_del h n)⟩
/-- what came beside the store is taken away again -/
theorem Ex.del {o : HO} (e : Ex p H p' H') (hn : H a = none) (h : H' a = some o) (n : NoTup o) : Ex p H p' (DL.del H' a) := by
  refine ⟨e.pre, fun b xs r => ?_, fun b u r hb => ?_, e.nw, fun b o2 u r => ?_⟩
  · have r' := e.tup b xs r
    have hb : b ≠ a := by
      rintro rfl
      rcases r' with r | ⟨u, r⟩
      · rw [h] at r; cases r; exact n
      · rw [h] at r; cases r; exact n
    rcases r' with q | ⟨u, q⟩
    · exact .inl (by rw [del_ne hb]; exact q)
    · exact .inr ⟨u, by rw [del_ne hb]; exact q⟩
  · rw [del_ne (ne_of_none r hn)]; exact e.fr b u r hb
  · rw [del_ne (ne_of_none r hn)]; exact e.fz b o2 u r
/-- what stands beside the store is changed -/
theorem ex_beside {o o' : HO} {p1 : List Addr} {H1 : Hp} (e : Ex p1 H1 p H) (hn : H1 a = none) (h : H a = some o) (n : NoTup o) : Ex p1 H1 p (upd H a o') := by
  refine ⟨e.pre, fun b xs r => ?_, fun b u r hb => ?_, e.nw, fun b o2 u r => ?_⟩
  · have r' := e.tup b xs r
    have hb : b ≠ a := by
      rintro rfl
      rcases r' with r | ⟨u, r⟩
      · rw [h] at r; cases r; exact n
      · rw [h] at r; cases r; exact n
    rcases r' with q | ⟨u, q⟩
    · exact .inl (by rw [upd_ne hb]; exact q)
    · exact .inr ⟨u, by rw [upd_ne hb]; exact q⟩
  · rw [upd_ne (ne_of_none r hn)]; exact e.fr b u r hb
  · rw [upd_ne (ne_of_none r hn)]; exact e.fz b o2 u r
theorem RS.beside2 {o o' : HO} (r : RS K p s H) (hn : a ∉ p) (h : H a = some o) (n : NoTup0 o) : RS K p s (upd H a o') := by
  refine ⟨r.len, r.nd, fun k ob b e1 e2 => ?_⟩
  obtain ⟨u, h1, h2⟩ := r.ob k ob b e1 e2
  have : b ≠ a := by
    rintro rfl
    exact hn (List.mem_of_getElem? e2)
  exact ⟨u, by rw [upd_ne this]; exact h1, h2.mono0 (ex0_upd h n)⟩
end
def wipeD (r : Env) : List Nat → Env
  | [] => r
  | v :: vs => (wipeD r vs).set v none
theorem RE.wipe {K : PySem.W.Frag} {p : List Addr} {H : Hp} {r : Env} {t : L2.St} (h : RE K p H r t) : ∀ vs : List Nat, RE K p H (wipeD r vs) (wipe t vs)
  | [] => h
  | v :: vs => (RE.wipe h vs).unset v
theorem wipe_in {t : L2.St} {i : Nat} : ∀ {vs : List Nat}, i ∈ vs → (wipe t vs)[i]? = if i < t.length then some none else none
  | [], h => by cases h
  | v :: vs, h => by
    unfold wipe
    by_cases e : v = i
    · subst e
      by_cases hl : v < t.length
      · rw [if_pos hl, List.getElem?_set_self (by rw [wipe_length]; exact hl)]
      · rw [if_neg hl, List.getElem?_eq_none (by rw [List.length_set, wipe_length]; omega)]
    · have hm : i ∈ vs := (List.mem_cons.mp h).resolve_left (fun z => e z.symm)
      rw [List.getElem?_set_ne e]
      exact wipe_in hm
theorem wipe_eq {t t' : L2.St} {vs : List Nat} (h : ∀ j, j ∉ vs → t'[j]? = (wipe t vs)[j]?) (hl : t'.length = (wipe t vs).length) : wipe t' vs = wipe t vs := by
  apply List.ext_getElem?
  intro i
  by_cases hi : i ∈ vs
  · rw [wipe_in hi, wipe_in hi, hl, wipe_length]
  · rw [wipe_out hi, h i hi]
abbrev W0 : WX := fun _ _ _ _ => False
noncomputable def mLcGo (gs : List (Nat × Ob)) (tg : MG) (tt : MT) (te : ME) (r : Env) : List D → Sto → List D → R (List D)
  | [], s, acc => if guard gs s then .ok acc s else .bad
  | d :: ds, s, acc => if guard gs s then (match tg d r s with
    | .ok r1 s1 => (match tt r1 s1 with
      | .ok true s2 => (match te r1 s2 with
        | .ok y s3 => if acc.length < sizeLine then mLcGo gs tg tt te r ds s3 (acc ++ [y]) else .bad
        | _ => .bad)
      | .ok false s2 => mLcGo gs tg tt te r ds s2 acc
      | _ => .bad)
    | _ => .bad) else .bad
noncomputable def mLc (mi : MI) (tg : MG) (tt : MT) (te : ME) (vs : List Nat) : MA := fun r s => (mi r s).bind fun q s1 => mLcGo q.2 tg tt te (wipeD r vs) q.1 s1 []
def mYes : MT := fun _ s => .ok true s
section
variable {K : PySem.W.Frag} {W : WX} {g : TG} {mg : MG} {vs : List Nat} {mi : MI} {tt : MT} {te : ME}
theorem lc_read (tk : TgOk K g mg vs) {t : L2.St} {H : Hp} {Q : VK} (q : tL K W (mLc mi mg tt te vs) t H Q) : tLc (iD K W mi) g (tT K W0 tt) (tE K W0 te) vs t H Q := by
  obtain ⟨p, r, s, he, hs, q⟩ := q
  refine ⟨p, r, s, he, hs, (pR.bind q).imp fun p1 H1 dg s1 e1 rs1 q1 J str D hD => ?_⟩
  obtain ⟨ds, gs⟩ := dg
  dsimp only at q1 str
  have he1 := (he.mono e1).wipe vs
  refine ⟨fun i m H' => ∃ p' s' acc us, m = ds.length - i ∧ i ≤ ds.length ∧ H' D = some (.lst us) ∧ D ∉ p' ∧ Ex p1 H1 p' H' ∧ RS K p' s' H' ∧ RDs K p' H' acc us ∧
    pR K W t p1 H1 (mLcGo gs mg tt te (wipeD r vs) (ds.drop i) s' acc) fun p' H' ds _ => ∀ a vs, H' a = none → RDs K p' H' ds vs → Q (.ref a) (upd H' a (.lst vs)),
    ⟨ds.length, p1, s1, [], [], by simp, Nat.zero_le _, upd_same, rs1.fresh hD, ex_new0 hD, rs1.beside hD, .nil, q1⟩, ?_⟩
  rintro i m H' ⟨p', s', acc, us, rfl, hi, hDu, hDp, ex, rs, ra, q⟩
  by_cases hlt : i < ds.length
  · have hd : ds[i]? = some ds[i] := by simp [hlt]
    have hdrop : ds.drop i = ds[i] :: ds.drop (i + 1) := List.drop_eq_getElem_cons hlt
    rw [hdrop] at q
    simp only [mLcGo] at q
    split at q
    · rename_i hgd
      obtain ⟨hgo, hy⟩ := (str p' H' s' ex rs hgd).1 i _ hd
      refine .inr ⟨hgo, fun H2 => ∃ p' s' acc us, H2 D = some (.lst us) ∧ D ∉ p' ∧ Ex p1 H1 p' H2 ∧ RS K p' s' H2 ∧ RDs K p' H2 acc us ∧
        pR K W t p1 H1 (mLcGo gs mg tt te (wipeD r vs) (ds.drop (i + 1)) s' acc) fun p' H' ds _ => ∀ a vs, H' a = none → RDs K p' H' ds vs → Q (.ref a) (upd H' a (.lst vs)), ?_, ?_⟩
      · rintro H2 ⟨p2, s2, acc2, us2, a1, a2, a3, a4, a5, a6⟩
        exact ⟨ds.length - (i + 1), by omega, p2, s2, acc2, us2, rfl, hlt, a1, a2, a3, a4, a5, a6⟩
      · intro x H2 y
        obtain ⟨ex2, rs2, rd2⟩ := hy x H2 y
        have hD2 : H2 D = some (.lst us) := ex2.fr D _ hDu hDp
        cases hq2 : mg ds[i] (wipeD r vs) s' with
        | exc _ _ => simp only [hq2] at q; exact q.elim
        | bad => simp only [hq2] at q; exact q.elim
        | ok r1 s2 =>
          simp only [hq2] at q
          have es := tk.st _ _ _ _ _ hq2
          subst es
          refine tk.run x (wipe t vs) H2 _ p' (wipeD r vs) s2 _ r1 ((he1.mono ex).mono ex2) rs2 rd2 hq2 fun t3 he3 k3 l3 => ?_
          refine ⟨wipe_eq k3 l3, p', r1, s2, he3, rs2, ?_⟩
          cases hq3 : tt r1 s2 with
          | exc _ _ => simp only [hq3] at q; exact q.elim
          | bad => simp only [hq3] at q; exact q.elim
          | ok b s3 =>
            intro p3 H3 ex3 rs3
            have hD3 : H3 D = some (.lst us) := ex3.fr D _ hD2 hDp
            have hDp3 : D ∉ p3 := fun hm => by rw [ex3.nw D hm hDp] at hD2; cases hD2
            cases b with
            | false =>
              simp only [hq3] at q
              exact iteF ⟨p3, s3, acc, us, hD3, hDp3, (ex.trans ex2).trans ex3, rs3, (ra.mono ex2).mono ex3, q⟩
            | true =>
              simp only [hq3] at q
              refine iteT ⟨p3, r1, s3, he3.mono ex3, rs3, ?_⟩
              cases hq4 : te r1 s3 with
              | exc _ _ => simp only [hq4] at q; exact q.elim
              | bad => simp only [hq4] at q; exact q.elim
              | ok y s4 =>
                simp only [hq4] at q
                intro p4 H4 ex4 rs4 v rv
                have hD4 : H4 D = some (.lst us) := ex4.fr D _ hD3 hDp3
                have hDp4 : D ∉ p4 := fun hm => by rw [ex4.nw D hm hDp3] at hD3; cases hD3
                have ra4 := ((ra.mono ex2).mono ex3).mono ex4
                split at q
                · rename_i hl
                  have e0 : Ex0 p4 H4 p4 (upd H4 D (.lst (us ++ [v]))) := ex0_upd hD4 trivial
                  exact ⟨us, hD4, by rw [← ra4.length]; exact hl, p4, s4, acc ++ [y], us ++ [v], upd_same, hDp4, ex_beside (((ex.trans ex2).trans ex3).trans ex4) hD hD4 trivial, rs4.beside2 hDp4 hD4 trivial,
                    (ra4.append (.cons rv .nil)).mono0 e0, q⟩
                · exact q.elim
    · exact q.elim
  · have hi' : i = ds.length := by omega
    subst hi'
    rw [List.drop_length] at q
    simp only [mLcGo] at q
    split at q
    · rename_i hgd
      refine .inl ⟨(str p' H' s' ex rs hgd).2, ?_⟩
      have := q p' (del H' D) (ex.del hD hDu trivial) (rs.del hDu trivial hDp) D us del_same (ra.mono0 (ex0_del hDu trivial))
      rw [upd_del hDu] at this
      exact this
    · exact q.elim
end
section
variable {X : Cx} {W : WX}
theorem dl_lc {elt tg iter : Expr} {ifs : List Expr} {scope : Scope} {own : List (Str × Nat)} {pos : Pos} {mi : MI} {g : TG} {mg : MG} {tt : MT} {te : ME} (hc : X.calm = true) (hN : X.N.Nodup) (tk : TgOk X.K g mg (own.map (·.2))) (hi : DI X W tg iter mi) (ok : BlkOk X.N X.env.scope scope own)
    (hg : ∀ (s : Shared) (H : Hp) (C : Addr) (cl : List (Str × Addr)) (fp : List Addr), PG (X.blk s H scope (compEnvC scope cl C X.env) fp) tg g) (ht : ∀ (s : Shared) (H : Hp) (C : Addr) (cl : List (Str × Addr)) (fp : List Addr), PTs (X.blk s H scope (compEnvC scope cl C X.env) fp) ifs (tT X.K W0 tt))
    (he : ∀ (s : Shared) (H : Hp) (C : Addr) (cl : List (Str × Addr)) (fp : List Addr), DE (X.blk s H scope (compEnvC scope cl C X.env) fp) W0 elt te) (hs : ∀ x, foldedSetIterable iter X.env x = pure x := by intro _; rfl) :
    DLs X W (.ListComp elt [⟨tg, iter, ifs, 0⟩] scope pos) (mLc mi mg tt te (own.map (·.2))) := PE.imp (pe_lc hc hN hi ok hg ht he hs) fun _ _ _ q => lc_read tk q
theorem ds_setLc {i : Nat} {y : Str} {py : Pos} {elt tg iter : Expr} {ifs : List Expr} {scope : Scope} {own : List (Str × Nat)} {pos spos : Pos} {mi : MI} {g : TG} {mg : MG} {tt : MT} {te : ME} (hc : X.calm = true) (hN : X.N.Nodup) (hy : X.N[i]? = some y) (hyl : X.env.scope.names.lookup y = some .local)
    (hsw : swapsWith (.ListComp elt [⟨tg, iter, ifs, 0⟩] scope pos) (some (.Name y py)) spos.line X.env = pure true) (tk : TgOk X.K g mg (own.map (·.2))) (hi : DI X W tg iter mi) (ok : BlkOk X.N X.env.scope scope own)
    (hg : ∀ (s : Shared) (H : Hp) (C : Addr) (cl : List (Str × Addr)) (fp : List Addr), PG (X.blk s H scope (compEnvC scope cl C X.env) fp) tg g) (ht : ∀ (s : Shared) (H : Hp) (C : Addr) (cl : List (Str × Addr)) (fp : List Addr), PTs (X.blk s H scope (compEnvC scope cl C X.env) fp) ifs (tT X.K W0 tt))
    (he : ∀ (s : Shared) (H : Hp) (C : Addr) (cl : List (Str × Addr)) (fp : List Addr), DE (X.blk s H scope (compEnvC scope cl C X.env) fp) W0 elt te) (hs : ∀ x, foldedSetIterable iter X.env x = pure x := by intro _; rfl) :
    DS X W (.Assign [.Name y py] (.ListComp elt [⟨tg, iter, ifs, 0⟩] scope pos) spos) (mAsg (mNew (mLc mi mg tt te (own.map (·.2)))) (mgName i)) :=
  PS.imp (ps_setLc hc hN hy hyl hsw hi ok hg ht he hs) fun Z t H q => by
    have q2 := tAsg_of (vs := [i]) (g := gName i) (tg_name (by simp)) q
    obtain ⟨p, r, s, he, hs, q2⟩ := q2
    refine lc_read tk ⟨p, r, s, he, hs, (pR.bind q2).imp fun p1 H1 ds s1 e1 r1 q3 a vs ha rds => ?_⟩
    exact q3 (p1 ++ [a]) _ (ex_new ha) (r1.push ha (.lst (rds.mono (ex_new ha)))) _ (.loc (by rw [← r1.len]; simp))
theorem dts_nil : PTs X [] (tT X.K W0 mYes) := ⟨fun pins s σ H Q I h => by
  obtain ⟨p, r, st, he, hs, q⟩ := h
  exact pts_nil.run pins s σ H Q I (q p H .refl hs)⟩
theorem dts_one {c : Expr} {t : MT} (h : DT X W0 c t) : PTs X [c] (tT X.K W0 t) := pts_one h
end
end DL
end
/-! ### DL8 -/
section
set_option linter.all false
set_option maxRecDepth 100000
/-! DL8: dict comprehensions, locked dicts, stores by subscript, methods of lists and dicts. -/
namespace DL
open PySem PySem.Spec L2
open PyProof.Rows hiding St

/-! ### an expression whose value is a dict just made -/
abbrev MD := Env → Sto → R (List (Key × D))
def tDk (K : PySem.W.Frag) (W : WX) (m : MD) : TE := fun t H Q => ∃ p r s, RE K p H r t ∧ RS K p s H ∧ pR K W t p H (m r s) fun p' H' ds _ => ∀ a vs, H' a = none → RF K p' H' ds vs → Q (.ref a) (upd H' a (.dK vs))
abbrev DDk (X : Cx) (W : WX) (e : Expr) (m : MD) : Prop := PE X e (tDk X.K W m)
def mNewD (m : MD) : ME := fun r s => (m r s).bind fun ds s1 => .ok (.loc s1.length) (s1 ++ [.dct ds])
theorem newD_of {K : PySem.W.Frag} {W : WX} {m : MD} {t : L2.St} {H : Hp} {Q : VK} (q : tE K W (mNewD m) t H Q) : tDk K W m t H Q := by
  obtain ⟨p, r, s, he, hs, q⟩ := q
  refine ⟨p, r, s, he, hs, (pR.bind q).imp fun p1 H1 ds s1 e1 r1 q1 a vs ha rds => ?_⟩
  exact q1 (p1 ++ [a]) _ (ex_new ha) (r1.push ha (.dct (rds.mono (ex_new ha)))) _ (.loc (by rw [← r1.len]; simp))
theorem de_newD {X : Cx} {W : WX} {e : Expr} {m : MD} (h : DDk X W e m) : DE X W e (mNewD m) := PE.imp h fun _ _ _ q => newD_of q

noncomputable def mDcGo (gs : List (Nat × Ob)) (tg : MG) (tt : MT) (tk tv : ME) (r : Env) : List D → Sto → List (Key × D) → R (List (Key × D))
  | [], s, acc => if guard gs s then .ok acc s else .bad
  | d :: ds, s, acc => if guard gs s then (match tg d r s with
    | .ok r1 s1 => (match tt r1 s1 with
      | .ok true s2 => (match tk r1 s2 with
        | .ok k s3 => (match tv r1 s3 with
          | .ok v s4 => (match keyD k with
            | some k => if acc.length < sizeLine then mDcGo gs tg tt tk tv r ds s4 (dPut acc k v) else .bad
            | none => .bad)
          | _ => .bad)
        | _ => .bad)
      | .ok false s2 => mDcGo gs tg tt tk tv r ds s2 acc
      | _ => .bad)
    | _ => .bad) else .bad
noncomputable def mDc (mi : MI) (tg : MG) (tt : MT) (tk tv : ME) (vs : List Nat) : MD := fun r s => (mi r s).bind fun q s1 => mDcGo q.2 tg tt tk tv (wipeD r vs) q.1 s1 []
section
variable {K : PySem.W.Frag} {W : WX} {g : TG} {mg : MG} {vs : List Nat} {mi : MI} {tt : MT} {mk tv : ME}
theorem dc_read (tk : TgOk K g mg vs) {t : L2.St} {H : Hp} {Q : VK} (q : tDk K W (mDc mi mg tt mk tv vs) t H Q) : tDc (iD K W mi) g (tT K W0 tt) (tE K W0 mk) (tE K W0 tv) vs t H Q := by
  obtain ⟨p, r, s, he, hs, q⟩ := q
  refine ⟨p, r, s, he, hs, (pR.bind q).imp fun p1 H1 dg s1 e1 rs1 q1 J str D hD => ?_⟩
  obtain ⟨ds, gs⟩ := dg
  dsimp only at q1 str
  have he1 := (he.mono e1).wipe vs
  refine ⟨fun i m H' => ∃ p' s' acc us, m = ds.length - i ∧ i ≤ ds.length ∧ H' D = some (.dK us) ∧ D ∉ p' ∧ Ex p1 H1 p' H' ∧ RS K p' s' H' ∧ RF K p' H' acc us ∧
    pR K W t p1 H1 (mDcGo gs mg tt mk tv (wipeD r vs) (ds.drop i) s' acc) fun p' H' ds _ => ∀ a vs, H' a = none → RF K p' H' ds vs → Q (.ref a) (upd H' a (.dK vs)),
    ⟨ds.length, p1, s1, [], [], by simp, Nat.zero_le _, upd_same, rs1.fresh hD, ex_new0 hD, rs1.beside hD, .nil, q1⟩, ?_⟩
  rintro i m H' ⟨p', s', acc, us, rfl, hi, hDu, hDp, ex, rs, ra, q⟩
  by_cases hlt : i < ds.length
  · have hd : ds[i]? = some ds[i] := by simp [hlt]
    have hdrop : ds.drop i = ds[i] :: ds.drop (i + 1) := List.drop_eq_getElem_cons hlt
    rw [hdrop] at q
    simp only [mDcGo] at q
    split at q
    · rename_i hgd
      obtain ⟨hgo, hy⟩ := (str p' H' s' ex rs hgd).1 i _ hd
      refine .inr ⟨hgo, fun H2 => ∃ p' s' acc us, H2 D = some (.dK us) ∧ D ∉ p' ∧ Ex p1 H1 p' H2 ∧ RS K p' s' H2 ∧ RF K p' H2 acc us ∧
        pR K W t p1 H1 (mDcGo gs mg tt mk tv (wipeD r vs) (ds.drop (i + 1)) s' acc) fun p' H' ds _ => ∀ a vs, H' a = none → RF K p' H' ds vs → Q (.ref a) (upd H' a (.dK vs)), ?_, ?_⟩
      · rintro H2 ⟨p2, s2, acc2, us2, a1, a2, a3, a4, a5, a6⟩
        exact ⟨ds.length - (i + 1), by omega, p2, s2, acc2, us2, rfl, hlt, a1, a2, a3, a4, a5, a6⟩
      · intro x H2 y
        obtain ⟨ex2, rs2, rd2⟩ := hy x H2 y
        have hD2 : H2 D = some (.dK us) := ex2.fr D _ hDu hDp
        cases hq2 : mg ds[i] (wipeD r vs) s' with
        | exc _ _ => simp only [hq2] at q; exact q.elim
        | bad => simp only [hq2] at q; exact q.elim
        | ok r1 s2 =>
          simp only [hq2] at q
          have es := tk.st _ _ _ _ _ hq2
          subst es
          refine tk.run x (wipe t vs) H2 _ p' (wipeD r vs) s2 _ r1 ((he1.mono ex).mono ex2) rs2 rd2 hq2 fun t3 he3 k3 l3 => ?_
          refine ⟨wipe_eq k3 l3, p', r1, s2, he3, rs2, ?_⟩
          cases hq3 : tt r1 s2 with
          | exc _ _ => simp only [hq3] at q; exact q.elim
          | bad => simp only [hq3] at q; exact q.elim
          | ok b s3 =>
            intro p3 H3 ex3 rs3
            have hD3 : H3 D = some (.dK us) := ex3.fr D _ hD2 hDp
            have hDp3 : D ∉ p3 := fun hm => by rw [ex3.nw D hm hDp] at hD2; cases hD2
            cases b with
            | false =>
              simp only [hq3] at q
              exact iteF ⟨p3, s3, acc, us, hD3, hDp3, (ex.trans ex2).trans ex3, rs3, (ra.mono ex2).mono ex3, q⟩
            | true =>
              simp only [hq3] at q
              refine iteT ⟨p3, r1, s3, he3.mono ex3, rs3, ?_⟩
              cases hq4 : mk r1 s3 with
              | exc _ _ => simp only [hq4] at q; exact q.elim
              | bad => simp only [hq4] at q; exact q.elim
              | ok y s4 =>
                simp only [hq4] at q
                intro p4 H4 ex4 rs4 v rv
                have hD4 : H4 D = some (.dK us) := ex4.fr D _ hD3 hDp3
                have hDp4 : D ∉ p4 := fun hm => by rw [ex4.nw D hm hDp3] at hD3; cases hD3
                refine ⟨p4, r1, s4, (he3.mono ex3).mono ex4, rs4, ?_⟩
                cases hq5 : tv r1 s4 with
                | exc _ _ => simp only [hq5] at q; exact q.elim
                | bad => simp only [hq5] at q; exact q.elim
                | ok z s5 =>
                  simp only [hq5] at q
                  intro p5 H5 ex5 rs5 w rw5
                  have hD5 : H5 D = some (.dK us) := ex5.fr D _ hD4 hDp4
                  have hDp5 : D ∉ p5 := fun hm => by rw [ex5.nw D hm hDp4] at hD4; cases hD4
                  have ra5 := (((ra.mono ex2).mono ex3).mono ex4).mono ex5
                  split at q
                  · rename_i k hk
                    split at q
                    · rename_i hl
                      have e0 : Ex0 p5 H5 p5 (upd H5 D (.dK (putK us k w))) := ex0_upd hD5 trivial
                      exact ⟨us, k, keyD_rd (rv.mono ex5) hk, hD5, by rw [← ra5.length]; exact hl, p5, s5, dPut acc k z, putK us k w, upd_same, hDp5,
                        ex_beside ((((ex.trans ex2).trans ex3).trans ex4).trans ex5) hD hD5 trivial, rs5.beside2 hDp5 hD5 trivial, (dPut_rd rw5 ra5).mono0 e0, q⟩
                    · exact q.elim
                  · exact q.elim
    · exact q.elim
  · have hi' : i = ds.length := by omega
    subst hi'
    rw [List.drop_length] at q
    simp only [mDcGo] at q
    split at q
    · rename_i hgd
      refine .inl ⟨(str p' H' s' ex rs hgd).2, ?_⟩
      have := q p' (del H' D) (ex.del hD hDu trivial) (rs.del hDu trivial hDp) D us del_same (ra.mono0 (ex0_del hDu trivial))
      rw [upd_del hDu] at this
      exact this
    · exact q.elim
end
section
variable {X : Cx} {W : WX}
theorem dk_dc {kx vx tg iter : Expr} {ifs : List Expr} {scope : Scope} {own : List (Str × Nat)} {pos : Pos} {mi : MI} {g : TG} {mg : MG} {tt : MT} {mk tv : ME} (hc : X.calm = true) (hN : X.N.Nodup) (tk : TgOk X.K g mg (own.map (·.2))) (hi : DI X W tg iter mi) (ok : BlkOk X.N X.env.scope scope own)
    (hg : ∀ (s : Shared) (H : Hp) (C : Addr) (cl : List (Str × Addr)) (fp : List Addr), PG (X.blk s H scope (compEnvC scope cl C X.env) fp) tg g) (ht : ∀ (s : Shared) (H : Hp) (C : Addr) (cl : List (Str × Addr)) (fp : List Addr), PTs (X.blk s H scope (compEnvC scope cl C X.env) fp) ifs (tT X.K W0 tt))
    (hk : ∀ (s : Shared) (H : Hp) (C : Addr) (cl : List (Str × Addr)) (fp : List Addr), DE (X.blk s H scope (compEnvC scope cl C X.env) fp) W0 kx mk) (he : ∀ (s : Shared) (H : Hp) (C : Addr) (cl : List (Str × Addr)) (fp : List Addr), DE (X.blk s H scope (compEnvC scope cl C X.env) fp) W0 vx tv)
    (hs : ∀ x, foldedSetIterable iter X.env x = pure x := by intro _; rfl) :
    DDk X W (.DictComp kx vx [⟨tg, iter, ifs, 0⟩] scope pos) (mDc mi mg tt mk tv (own.map (·.2))) := PE.imp (pe_dc hc hN hi ok hg ht hk he hs) fun _ _ _ q => dc_read tk q
/-- name = {..} on one line -/
theorem ps_setDc {i : Nat} {y : Str} {py : Pos} {kx vx tg iter : Expr} {ifs : List Expr} {scope : Scope} {own : List (Str × Nat)} {pos spos : Pos} {wi : TI} {g : TG} {tt : TT} {tk tv : TE} (hc : X.calm = true) (hN : X.N.Nodup) (hy : X.N[i]? = some y) (hyl : X.env.scope.names.lookup y = some .local)
    (hsw : swapsWith (.DictComp kx vx [⟨tg, iter, ifs, 0⟩] scope pos) (some (.Name y py)) spos.line X.env = pure true) (hi : PI X tg iter wi) (ok : BlkOk X.N X.env.scope scope own)
    (hg : ∀ (s : Shared) (H : Hp) (C : Addr) (cl : List (Str × Addr)) (fp : List Addr), PG (X.blk s H scope (compEnvC scope cl C X.env) fp) tg g) (ht : ∀ (s : Shared) (H : Hp) (C : Addr) (cl : List (Str × Addr)) (fp : List Addr), PTs (X.blk s H scope (compEnvC scope cl C X.env) fp) ifs tt)
    (hk : ∀ (s : Shared) (H : Hp) (C : Addr) (cl : List (Str × Addr)) (fp : List Addr), PE (X.blk s H scope (compEnvC scope cl C X.env) fp) kx tk) (he : ∀ (s : Shared) (H : Hp) (C : Addr) (cl : List (Str × Addr)) (fp : List Addr), PE (X.blk s H scope (compEnvC scope cl C X.env) fp) vx tv)
    (hs : ∀ x, foldedSetIterable iter X.env x = pure x := by intro _; rfl) :
    PS X (.Assign [.Name y py] (.DictComp kx vx [⟨tg, iter, ifs, 0⟩] scope pos) spos) (tAsg (tDc wi g tt tk tv (own.map (·.2))) (gName i)) := by
  refine ⟨fun pins s σ H D I h => ?_⟩
  rw [exec_Assign_Name_used _ _ _ _ hsw]
  refine wpAny_bind (wpAny_standAt (wpAny_bind ?_))
  show wpAny _ X.A (do let _ ← comprehension (.DictComp kx vx [⟨tg, iter, ifs, 0⟩] scope pos) scope X.env (firstIterPos [⟨tg, iter, ifs, 0⟩] pos) newDict false (eval iter X.env) (some (assign (.Name y py) X.env))) _ _ s
  have h : tDc wi g tt tk tv (own.map (·.2)) σ H (fun x H1 => gName i x σ H1 D.nx) := h
  refine wpAny_bind (thn (dc_core (Qf := fun _ s' => SP X pins D .next s') hc hN I hi ok hg ht hk he hs h fun L C s' m H' I' q hn f => ?_) fun _ s' hq => wpAny_pure (wpAny_pure hq))
  show wpAny _ _ (assign (.Name y py) X.env (.ref L)) _ _ _
  refine wpAny_assign_Name (store_ok2 (v := V.ref L) I' hN hy (.inl hyl) rfl (fun s2 I2 ⟨a, sb, ha⟩ => ?_) (.inr hyl))
  obtain ⟨f0, f1, f2, f3, f4, f5⟩ := f
  have haC : C ≠ a := by
    rcases ha with z | z
    · rw [z]; exact f1
    · exact fun e => f4 y a z e.symm
  refine ⟨m, hn.sameBut sb haC, fun h3 sb3 => ?_⟩
  exact ⟨_, H', I2.turned (t' := s2.toks) (fun b o hb e => (sb3.2 b hb).trans e) f0 f1 f3 f4 f5, q⟩
theorem ds_setDc {i : Nat} {y : Str} {py : Pos} {kx vx tg iter : Expr} {ifs : List Expr} {scope : Scope} {own : List (Str × Nat)} {pos spos : Pos} {mi : MI} {g : TG} {mg : MG} {tt : MT} {mk tv : ME} (hc : X.calm = true) (hN : X.N.Nodup) (hy : X.N[i]? = some y) (hyl : X.env.scope.names.lookup y = some .local)
    (hsw : swapsWith (.DictComp kx vx [⟨tg, iter, ifs, 0⟩] scope pos) (some (.Name y py)) spos.line X.env = pure true) (tk : TgOk X.K g mg (own.map (·.2))) (hi : DI X W tg iter mi) (ok : BlkOk X.N X.env.scope scope own)
    (hg : ∀ (s : Shared) (H : Hp) (C : Addr) (cl : List (Str × Addr)) (fp : List Addr), PG (X.blk s H scope (compEnvC scope cl C X.env) fp) tg g) (ht : ∀ (s : Shared) (H : Hp) (C : Addr) (cl : List (Str × Addr)) (fp : List Addr), PTs (X.blk s H scope (compEnvC scope cl C X.env) fp) ifs (tT X.K W0 tt))
    (hk : ∀ (s : Shared) (H : Hp) (C : Addr) (cl : List (Str × Addr)) (fp : List Addr), DE (X.blk s H scope (compEnvC scope cl C X.env) fp) W0 kx mk) (he : ∀ (s : Shared) (H : Hp) (C : Addr) (cl : List (Str × Addr)) (fp : List Addr), DE (X.blk s H scope (compEnvC scope cl C X.env) fp) W0 vx tv)
    (hs : ∀ x, foldedSetIterable iter X.env x = pure x := by intro _; rfl) :
    DS X W (.Assign [.Name y py] (.DictComp kx vx [⟨tg, iter, ifs, 0⟩] scope pos) spos) (mAsg (mNewD (mDc mi mg tt mk tv (own.map (·.2)))) (mgName i)) :=
  PS.imp (ps_setDc hc hN hy hyl hsw hi ok hg ht hk he hs) fun Z t H q => dc_read tk (newD_of (tAsg_of (vs := [i]) (g := gName i) (tg_name (by simp)) q))
end

/-! ### a dict that is locked while it is walked -/
/-- the dict that an expression names is locked, m runs, the dict is set free -/
def unlock {α : Type} (n : Nat) : R α → R α
  | .ok a s => match s[n]? with
    | some (.lok kvs) => .ok a (s.set n (.dct kvs))
    | _ => .bad
  | _ => .bad
def unlockS (n : Nat) : S → S
  | .nx r s => match s[n]? with
    | some (.lok kvs) => .nx r (s.set n (.dct kvs))
    | _ => .bad
  | .rt d s => match s[n]? with
    | some (.lok kvs) => .rt d (s.set n (.dct kvs))
    | _ => .bad
  | _ => .bad
def lockAt (mo : ME) (r : Env) (s : Sto) : Option (Nat × List (Key × D)) := match mo r s with
  | .ok (.loc n) _ => (match s[n]? with
    | some (.dct kvs) => some (n, kvs)
    | _ => none)
  | _ => none
def mLock {α : Type} (mo : ME) (m : Env → Sto → R α) : Env → Sto → R α := fun r s => match lockAt mo r s with
  | some (n, kvs) => unlock n (m r (s.set n (.lok kvs)))
  | none => .bad
def mLockS (mo : ME) (m : MS) : MS := fun r s => match lockAt mo r s with
  | some (n, kvs) => unlockS n (m r (s.set n (.lok kvs)))
  | none => .bad
section
variable {K : PySem.W.Frag} {p p' : List Addr} {H H' : Hp} {s s' : Sto} {n : Nat} {d : Addr} {kvs kvs' : List (Key × D)} {us : List (Key × V)} {od : Obj}
theorem lockAt_dct {mo : ME} {r : Env} (h : lockAt mo r s = some (n, kvs)) : s[n]? = some (.dct kvs) := by
  unfold lockAt at h
  split at h
  · split at h
    · rename_i hk
      cases h
      exact hk
    · cases h
  · cases h
theorem RS.lock (hs : RS K p s H) (hp : p[n]? = some d) (hd : H d = some (.dK us)) (r : RF K p H kvs us) : RS K p (s.set n (.lok kvs)) (upd H d (.frz od (.dK us))) ∧ Ex p H p (upd H d (.frz od (.dK us))) := by
  have ex : Ex p H p (upd H d (.frz od (.dK us))) := ex_upd hp hd trivial
  exact ⟨hs.put hp hd trivial (.lok (r.mono ex)), ex⟩
/-- free again -/
theorem RS.free (hs : RS K p' s' H') (ex : Ex p (upd H d (.frz od (.dK us))) p' H') (hp : p[n]? = some d) (hd : H d = some (.dK us)) (hk : s'[n]? = some (.lok kvs')) :
    RS K p' (s'.set n (.dct kvs')) (upd H' d (.dK us)) ∧ Ex p H p' (upd H' d (.dK us)) ∧ Ex0 p' H' p' (upd H' d (.dK us)) ∧ H' d = some (.frz od (.dK us)) := by
  have hd' : H' d = some (.frz od (.dK us)) := ex.fz d _ _ upd_same
  have hp' := ex.get hp
  have e0 : Ex0 p' H' p' (upd H' d (.dK us)) := ex0_upd hd' trivial
  obtain ⟨a, o, q1, q2, q3⟩ := hs.mut hk
  rw [hp'] at q1; cases q1
  rw [hd'] at q2; cases q2
  cases q3 with
  | lok r =>
    have ne : ∀ {b : Addr} {o : HO}, (upd H d (.frz od (.dK us))) b = some o → b ≠ d → H b = some o := fun h hb => by rw [upd_ne hb] at h; exact h
    refine ⟨hs.put hp' hd' trivial (.dct (r.mono0 e0)), ⟨ex.pre, fun b xs h => ?_, fun b u h hb => ?_, fun b h1 h2 => ?_, fun b o2 u h => ?_⟩, e0, hd'⟩
    · have hb : b ≠ d := by
        rintro rfl
        rcases h with h | ⟨u, h⟩ <;> · rw [hd] at h; cases h
      have h' : Rd (upd H d (.frz od (.dK us))) b (.tup xs) := by
        rcases h with h | ⟨u, h⟩
        · exact .inl (by rw [upd_ne hb]; exact h)
        · exact .inr ⟨u, by rw [upd_ne hb]; exact h⟩
      exact e0.tup b xs (ex.tup b xs h')
    · have hbd : b ≠ d := by
        rintro rfl
        exact hb (List.mem_of_getElem? hp)
      rw [upd_ne hbd]
      exact ex.fr b u (by rw [upd_ne hbd]; exact h) hb
    · have hbd : b ≠ d := by
        rintro rfl
        exact h2 (List.mem_of_getElem? hp)
      have := ex.nw b h1 h2
      rw [upd_ne hbd] at this; exact this
    · have hbd : b ≠ d := by
        rintro rfl
        rw [hd] at h; cases h
      rw [upd_ne hbd]
      exact ex.fz b o2 u (by rw [upd_ne hbd]; exact h)
end
section
variable {X : Cx} {W : WX} {e : Expr} {st : Stmt} {mo m : ME} {u : MS}
theorem de_lock (h : DE X W e m) : DE X W e (mLock mo m) := PE.imp (pe_lock h) fun t H Q ⟨p, r, s, he, hs, q⟩ => by
  unfold mLock at q
  split at q
  · rename_i n kvs hl
    have hk := lockAt_dct hl
    obtain ⟨d, o, q1, q2, q3⟩ := hs.mut hk
    cases q3 with
    | dct rf =>
      rename_i us
      refine ⟨d, _, q2, trivial, fun od => ?_⟩
      obtain ⟨rs1, ex1⟩ := hs.lock (od := od) q1 q2 rf
      refine ⟨p, r, _, he.mono ex1, rs1, ?_⟩
      cases hq : m r (s.set n (.lok kvs)) with
      | exc _ _ => simp only [hq, unlock] at q; exact q.elim
      | bad => simp only [hq, unlock] at q; exact q.elim
      | ok z s2 =>
        simp only [hq, unlock] at q
        split at q
        · rename_i kvs2 hk2
          intro p' H' ex rs v rv
          obtain ⟨rs2, ex2, e0, hd'⟩ := rs.free ex q1 q2 hk2
          exact ⟨hd', q p' _ ex2 rs2 v (rv.mono0 e0)⟩
        · exact q.elim
  · exact q.elim
theorem dl_lock {m : MA} (h : DLs X W e m) : DLs X W e (mLock mo m) := PE.imp (pe_lock h) fun t H Q ⟨p, r, s, he, hs, q⟩ => by
  unfold mLock at q
  split at q
  · rename_i n kvs hl
    have hk := lockAt_dct hl
    obtain ⟨d, o, q1, q2, q3⟩ := hs.mut hk
    cases q3 with
    | dct rf =>
      rename_i us
      refine ⟨d, _, q2, trivial, fun od => ?_⟩
      obtain ⟨rs1, ex1⟩ := hs.lock (od := od) q1 q2 rf
      refine ⟨p, r, _, he.mono ex1, rs1, ?_⟩
      cases hq : m r (s.set n (.lok kvs)) with
      | exc _ _ => simp only [hq, unlock] at q; exact q.elim
      | bad => simp only [hq, unlock] at q; exact q.elim
      | ok z s2 =>
        simp only [hq, unlock] at q
        split at q
        · rename_i kvs2 hk2
          intro p' H' ex rs a vs ha rv
          obtain ⟨rs2, ex2, e0, hd'⟩ := rs.free ex q1 q2 hk2
          have hne : d ≠ a := ne_of_none hd' ha
          refine ⟨by rw [upd_ne hne]; exact hd', ?_⟩
          have := q p' _ ex2 rs2 a vs (by rw [upd_ne hne.symm]; exact ha) (rv.mono0 e0)
          have sw : upd (upd H' a (.lst vs)) d (.dK us) = upd (upd H' d (.dK us)) a (.lst vs) := by
            funext b; unfold upd
            by_cases h1 : b = d
            · by_cases h2 : b = a
              · exact absurd (h1.symm.trans h2) hne
              · simp [h1, hne]
            · simp [h1]
          rw [sw]; exact this
        · exact q.elim
  · exact q.elim
theorem dk_lock {m : MD} (h : DDk X W e m) : DDk X W e (mLock mo m) := PE.imp (pe_lock h) fun t H Q ⟨p, r, s, he, hs, q⟩ => by
  unfold mLock at q
  split at q
  · rename_i n kvs hl
    have hk := lockAt_dct hl
    obtain ⟨d, o, q1, q2, q3⟩ := hs.mut hk
    cases q3 with
    | dct rf =>
      rename_i us
      refine ⟨d, _, q2, trivial, fun od => ?_⟩
      obtain ⟨rs1, ex1⟩ := hs.lock (od := od) q1 q2 rf
      refine ⟨p, r, _, he.mono ex1, rs1, ?_⟩
      cases hq : m r (s.set n (.lok kvs)) with
      | exc _ _ => simp only [hq, unlock] at q; exact q.elim
      | bad => simp only [hq, unlock] at q; exact q.elim
      | ok z s2 =>
        simp only [hq, unlock] at q
        split at q
        · rename_i kvs2 hk2
          intro p' H' ex rs a vs ha rv
          obtain ⟨rs2, ex2, e0, hd'⟩ := rs.free ex q1 q2 hk2
          have hne : d ≠ a := ne_of_none hd' ha
          refine ⟨by rw [upd_ne hne]; exact hd', ?_⟩
          have := q p' _ ex2 rs2 a vs (by rw [upd_ne hne.symm]; exact ha) (rv.mono0 e0)
          have sw : upd (upd H' a (.dK vs)) d (.dK us) = upd (upd H' d (.dK us)) a (.dK vs) := by
            funext b; unfold upd
            by_cases h1 : b = d
            · by_cases h2 : b = a
              · exact absurd (h1.symm.trans h2) hne
              · simp [h1, hne]
            · simp [h1]
          rw [sw]; exact this
        · exact q.elim
  · exact q.elim
theorem ds_lock (h : DS X W st u) : DS X W st (mLockS mo u) := PS.imp (ps_lock h) fun Z t H ⟨p, r, s, he, hs, q⟩ => by
  unfold mLockS at q
  split at q
  · rename_i n kvs hl
    have hk := lockAt_dct hl
    obtain ⟨d, o, q1, q2, q3⟩ := hs.mut hk
    cases q3 with
    | dct rf =>
      rename_i us
      refine ⟨d, _, q2, trivial, fun od => ?_⟩
      obtain ⟨rs1, ex1⟩ := hs.lock (od := od) q1 q2 rf
      refine ⟨p, r, _, he.mono ex1, rs1, ?_⟩
      cases hq : u r (s.set n (.lok kvs)) with
      | bk _ _ => simp only [hq, unlockS] at q; exact q.elim
      | ct _ _ => simp only [hq, unlockS] at q; exact q.elim
      | exc _ _ _ => simp only [hq, unlockS] at q; exact q.elim
      | bad => simp only [hq, unlockS] at q; exact q.elim
      | nx r2 s2 =>
        simp only [hq, unlockS] at q
        split at q
        · rename_i kvs2 hk2
          intro p' H' t' ex rs re
          obtain ⟨rs2, ex2, e0, hd'⟩ := rs.free ex q1 q2 hk2
          exact ⟨hd', q p' _ t' ex2 rs2 (re.mono0 e0)⟩
        · exact q.elim
      | rt z s2 =>
        simp only [hq, unlockS] at q
        split at q
        · rename_i kvs2 hk2
          intro p' H' v ex rs rv
          obtain ⟨rs2, ex2, e0, hd'⟩ := rs.free ex q1 q2 hk2
          exact ⟨hd', q p' _ v ex2 rs2 (rv.mono0 e0)⟩
        · exact q.elim
  · exact q.elim
/-- the keys of a locked dict -/
def mKeys (m : ME) : MI := fun r s => (m r s).bind fun d s1 => match d with
  | .loc n => (match s1[n]? with
    | some (.lok kvs) => .ok (kvs.map fun kv => keyV kv.1, [(n, .lok kvs)]) s1
    | _ => .bad)
  | _ => .bad
theorem str_keys {K : PySem.W.Frag} {p1 : List Addr} {H1 : Hp} {d : Addr} {o : Obj} {kvs : List (Key × D)} {us : List (Key × V)} {gs : List (Nat × Ob)} (hd : H1 d = some (.frz o (.dK us))) (r : RF K p1 H1 kvs us) : Str8 K (Itk d o us) p1 H1 (kvs.map fun kv => keyV kv.1) gs := fun p H s ex rs g => by
  have hd2 := ex.fz _ _ _ hd
  have hk : ∀ {l : List (Key × D)} {l2 : List (Key × V)}, RF K p1 H1 l l2 → l.map (·.1) = l2.map (·.1) := fun {l l2} r => by
    induction r with
    | nil => rfl
    | cons q _ ih => simp [q.1, ih]
  have e := hk r
  refine ⟨fun i x hx => ?_, ⟨hd2, by rw [← r.length]; simp⟩⟩
  simp only [List.getElem?_map, Option.map_eq_some_iff] at hx
  obtain ⟨kv, h1, rfl⟩ := hx
  have hi : i < us.length := by rw [← r.length]; exact (List.getElem?_eq_some_iff.mp h1).1
  refine ⟨⟨hd2, hi⟩, fun y H' ⟨e1, k, v, h2, e2⟩ => ?_⟩
  subst e1 e2
  have : kv.1 = k := by
    have a1 : (kvs.map (·.1))[i]? = some kv.1 := by simp [h1]
    have a2 : (us.map (·.1))[i]? = some k := by simp [h2]
    rw [e, a2] at a1; exact (Option.some.inj a1).symm
  subst this
  exact ⟨.refl, rs, keyV_rd _⟩
theorem di_keys {tg : Expr} (h : DE X W e m) : DI X W tg e (mKeys m) := PI.imp (pi_keys h) fun t H Q ⟨p, r, s, he, hs, q⟩ => by
  refine tE.stepK he hs q fun p1 H1 d v s1 e1 r1 he1 rd q1 => ?_
  split at q1
  · split at q1
    · rename_i kvs hn
      obtain ⟨a, o, us, rfl, h1, h2, h3⟩ := lok_rd r1 rd hn
      exact ⟨a, o, rfl, .inl ⟨us, h1, q1 p1 H1 .refl r1 _ (str_keys h1 h2)⟩⟩
    · exact q1.elim
  · exact q1.elim
end

/-! ### o[i] = v -/
def gSet : D → D → D → Sto → Option Sto
  | .loc n, i, v, s => match s[n]? with
    | some (.lst ds) => (match i with
      | .int k => (ixN ds.length k).map fun j => s.set n (.lst (ds.set j v))
      | _ => none)
    | some (.dct kvs) => (keyD i).bind fun k => if kvs.length < sizeLine then some (s.set n (.dct (dPut kvs k v))) else none
    | _ => none
  | _, _, _, _ => none
def mSetIx (mv mo mi : ME) : MS := fun r s => match mv r s with
  | .ok v s1 => (match mo r s1 with
    | .ok o s2 => (match mi r s2 with
      | .ok i s3 => (match gSet o i v s3 with
        | some s4 => .nx r s4
        | none => .bad)
      | .exc e s3 => .exc e r s3
      | .bad => .bad)
    | .exc e s2 => .exc e r s2
    | .bad => .bad)
  | .exc e s1 => .exc e r s1
  | .bad => .bad
section
variable {X : Cx} {W : WX} {pos pos' : Pos} {o i e : Expr} {mv mo mi : ME}
theorem PSet.or {t t' : TSet} (h : PSet X t) (h' : PSet X t') : PSet X (fun o i v H Q => t o i v H Q ∨ t' o i v H Q) := fun pins s σ H o i v ov iv u Q I ro ri rv q =>
  q.elim (fun z => h pins s σ H o i v ov iv u Q I ro ri rv z) fun z => h' pins s σ H o i v ov iv u Q I ro ri rv z
theorem set_dict (hu : X.A.units + 1 < cLine) : PSet X (fun o i v H Q => ∃ a H4, o = .ref a ∧ DPut H a i v H4 ∧ Q H4) := by
  intro pins s σ H o i v ov iv u Q I ro ri rv h
  obtain ⟨a, H4, rfl, g, q⟩ := h
  obtain rfl : ov = Value.ref a := ro
  exact d_setItem hu I g ri rv fun s4 I4 => ⟨H4, I4, q⟩
theorem gSet_rd {K : PySem.W.Frag} {p : List Addr} {H : Hp} {s s4 : Sto} {o i v : D} {ov iv vv : V} (hs : RS K p s H) (ro : RD K p H o ov) (ri : RD K p H i iv) (rv : RD K p H v vv) (h : gSet o i v s = some s4) :
    ∃ a H4, Ex p H p H4 ∧ RS K p s4 H4 ∧ ((∃ xs k j, ov = .ref a ∧ iv = .int k ∧ H a = some (.lst xs) ∧ ixN xs.length k = some j ∧ H4 = upd H a (.lst (xs.set j vv))) ∨ (ov = .ref a ∧ DPut H a iv vv H4)) := by
  cases o <;> simp only [gSet] at h <;> try (cases h; done)
  rename_i n
  split at h
  · rename_i ds hn
    obtain ⟨a, us, rfl, h1, h2, h3⟩ := lst_rd hs ro hn
    cases ri <;> simp only at h <;> try (cases h; done)
    simp only [Option.map_eq_some_iff] at h
    obtain ⟨j, hj, rfl⟩ := h
    have ex : Ex p H p (upd H a (.lst (us.set j vv))) := ex_upd h3 h1 trivial
    exact ⟨a, _, ex, hs.put h3 h1 trivial (.lst ((h2.set j rv).mono ex)), .inl ⟨us, _, j, rfl, rfl, h1, by rw [← h2.length]; exact hj, rfl⟩⟩
  · rename_i kvs hn
    obtain ⟨a, us, rfl, h1, h2, h3⟩ := dct_rd hs ro hn
    simp only [Option.bind_eq_some_iff] at h
    obtain ⟨k, hk, h⟩ := h
    split at h
    · rename_i hl
      cases h
      have ex : Ex p H p (upd H a (.dK (putK us k vv))) := ex_upd h3 h1 trivial
      exact ⟨a, _, ex, hs.put h3 h1 trivial (.dct ((dPut_rd rv h2).mono ex)), .inr ⟨rfl, .inl ⟨us, k, h1, keyD_rd ri hk, by rw [← h2.length]; exact hl, rfl⟩⟩⟩
    · cases h
  · cases h
theorem ds_setIx (hu : X.A.units + 1 < cLine) (hv : DE X W e mv) (ho : DE X W o mo) (hi : DE X W i mi)
    (ha : ∀ v, assign (.Subscript o i pos') X.env v = (do
      let ov ← holding [v] (eval o X.env)
      let iv ← holding [v, ov] (eval i X.env)
      standAt pos'
      holding [v, ov, iv] (setItem ov iv v)
      release [v, ov, iv] []) := by intro _; rfl)
    (hs : swapsWithSole [.Subscript o i pos'] e pos.line X.env = pure false := by rfl) (hw : swappedStores [.Subscript o i pos'] e X.env = pure none := by rfl)
    (h1 : (assignEach [.Subscript o i pos'] X.env).map (·.2) = [assign (.Subscript o i pos') X.env] := by rfl) : DS X W (.Assign [.Subscript o i pos'] e pos) (mSetIx mv mo mi) :=
  PS.imp (ps_asg hv (pg_sub ho hi (PSet.or set_list (set_dict hu)) ha) hs hw h1) fun Z t H ⟨p, r, s, he, hs, q⟩ => by
    refine tE.stepS (f := fun v s1 => match mo r s1 with
      | .ok o s2 => (match mi r s2 with
        | .ok i s3 => (match gSet o i v s3 with
          | some s4 => .nx r s4
          | none => .bad)
        | .exc e s3 => .exc e r s3
        | .bad => .bad)
      | .exc e s2 => .exc e r s2
      | .bad => .bad) he hs rfl q fun p1 H1 d v s1 e1 r1 he1 rd q1 => ?_
    refine tE.stepS (f := fun o s2 => match mi r s2 with
      | .ok i s3 => (match gSet o i d s3 with
        | some s4 => .nx r s4
        | none => .bad)
      | .exc e s3 => .exc e r s3
      | .bad => .bad) he1 r1 rfl q1 fun p2 H2 z w s2 e2 r2 he2 rd2 q2 => ?_
    refine tE.stepS (f := fun i s3 => match gSet z i d s3 with
      | some s4 => .nx r s4
      | none => .bad) he2 r2 rfl q2 fun p3 H3 y x s3 e3 r3 he3 rd3 q3 => ?_
    split at q3
    · rename_i s4 hg
      obtain ⟨a, H4, ex, rs4, h⟩ := gSet_rd r3 (rd2.mono e3) rd3 ((rd.mono e2).mono e3) hg
      rcases h with ⟨xs, k, j, rfl, rfl, h1, h2, rfl⟩ | ⟨rfl, g⟩
      · exact .inl ⟨a, xs, k, j, rfl, rfl, h1, h2, q3 p3 _ t ex rs4 (he3.mono ex)⟩
      · exact .inr ⟨a, H4, rfl, g, q3 p3 _ t ex rs4 (he3.mono ex)⟩
    · exact q3.elim
end
end DL
end
/-! ### DL9 -/
section
set_option linter.all false
set_option maxRecDepth 100000
/-! DL9: zip and enumerate over lists and tuples, in any mix. -/
namespace DL
open PySem PySem.Spec L2
open PyProof.Rows hiding St

/-- a list (l) or a tuple at a -/
def SqK (K : PySem.W.Frag) (l : Bool) (H : Hp) (a : Addr) (xs : List V) : Prop := match l with
  | true => SqL K H a xs
  | false => SqT K H a xs
def ItK (l : Bool) (h : Heap) (it a : Addr) (i : Nat) : Prop := match l with
  | true => h.IsListIter it a i
  | false => h.IsTupleIter it a i
def SrcK (l : Bool) (h : Heap) (a : Addr) (items : Array Value) : Prop := match l with
  | true => h.IsList a items
  | false => h.IsTuple a items
section
variable {X : Cx} {pins : List (Addr × Obj)} {σ : L2.St} {H : Hp} {s : Shared} {l : Bool} {a it : Addr} {xs ys : List V}
theorem sqk_at (I : Inv X pins σ H s) (h : SqK X.K l H a xs) : ∃ its : List Value, Vals xs its ∧ SrcK l s.heap a its.toArray ∧ xs.length ≤ sizeLine := by
  cases l with
  | true => obtain ⟨its, r, p, z⟩ := I.list h; exact ⟨its, r, p.isList, z⟩
  | false => obtain ⟨its, r, p, z⟩ := I.tuple h; exact ⟨its, r, p, z⟩
theorem sqk_inj (I : Inv X pins σ H s) (h : SqK X.K l H a xs) (h' : SqK X.K l H a ys) : xs = ys := by
  cases l with
  | true => exact I.list_inj h h'
  | false => exact I.tuple_inj h h'
theorem itk_at {h h' : Heap} {i : Nat} (x : ItK l h it a i) (k : ∀ o, h.get? it = some o → h'.get? it = some o) : ItK l h' it a i := by
  cases l with
  | true => exact Heap.IsListIter.at x k
  | false => obtain ⟨o, e, r⟩ := x; exact ⟨o, k o e, r⟩
theorem itk_obj {h : Heap} {i : Nat} (x : ItK l h it a i) : ∃ o, h.get? it = some o ∧ ∀ v, o.data ≠ .cell v := by
  cases l with
  | true => obtain ⟨o, e, _, d⟩ := x; exact ⟨o, e, fun v q => by rw [d] at q; cases q⟩
  | false => obtain ⟨o, e, _, d⟩ := x; exact ⟨o, e, fun v q => by rw [d] at q; cases q⟩
theorem src_lt {h : Heap} {items : Array Value} (x : SrcK l h a items) : a < h.objs.size := by
  cases l with
  | true => obtain ⟨o, e, _⟩ := x; exact Heap.lt_size e
  | false => obtain ⟨o, e, _⟩ := x; exact Heap.lt_size e
theorem draws_k {prog : Program} {w : World} {A : Around} (hh : A.handled = none) (hne : a ≠ it) (items : Array Value) : Draws prog w A it [it, a] items.size (fun i v => items[i]? = some v) (fun i h => ItK l h it a i ∧ SrcK l h a items) := by
  cases l with
  | true => exact Draws.list hh it a hne items
  | false => exact Draws.tuple hh it a hne items
end
/-- pairs of the items -/
def ItzK (K : PySem.W.Frag) (l1 l2 : Bool) (a b : Addr) : It :=
  ⟨fun i H => ∃ (xs ys : List V) (x y : V), SqK K l1 H a xs ∧ SqK K l2 H b ys ∧ xs[i]? = some x ∧ ys[i]? = some y,
    fun i H v H' => ∃ T x y, v = .ref T ∧ H T = none ∧ H' = upd H T (.tup [x, y]) ∧ (∀ xs, SqK K l1 H a xs → xs[i]? = some x) ∧ ∀ ys, SqK K l2 H b ys → ys[i]? = some y,
    fun i H => ∃ xs ys : List V, SqK K l1 H a xs ∧ SqK K l2 H b ys ∧ (i = min xs.length ys.length)⟩
theorem turn_zipK {P : Program} {w : World} {K : PySem.W.Frag} {elts : List Expr} {kk : Nat} {tpos : Pos} {l1 l2 : Bool} {a b z TI TO i1 i2 : Addr} (S : ZipSep2 z TI TO i1 i2 [i1, a] [i2, b]) (n1 : a ≠ i1) (n2 : b ≠ i2) :
    Turn P w K (.Tuple elts kk tpos) (ItzK K l1 l2 a b) [z, TI, TO, i1, i2] z (fun i h => IsZip h z TI TO .none ∧ IsTupOf2 h TI (.ref i1) (.ref i2) ∧ (∃ x y, IsTupOf2 h TO x y) ∧ ItK l1 h i1 a i ∧ ItK l2 h i2 b i) where
  mem := by simp
  obj := fun i h st c hc => by
    obtain ⟨hz, hTI, ⟨x, y, hTO⟩, h1, h2⟩ := st
    have e' : c = z ∨ c = TI ∨ c = TO ∨ c = i1 ∨ c = i2 := by simpa using hc
    rcases e' with q | q | q | q | q
    · rw [q]; exact ⟨_, hz, fun v q => nomatch q⟩
    · rw [q]; exact ⟨_, hTI, fun v q => nomatch q⟩
    · rw [q]; exact ⟨_, hTO, fun v q => nomatch q⟩
    · rw [q]; exact itk_obj h1
    · rw [q]; exact itk_obj h2
  keep := fun i h h' st k => by
    obtain ⟨hz, hTI, ⟨x, y, hTO⟩, h1, h2⟩ := st
    exact ⟨k z (by simp) _ hz, k TI (by simp) _ hTI, ⟨x, y, k TO (by simp) _ hTO⟩, itk_at h1 fun o q => k i1 (by simp) o q, itk_at h2 fun o q => k i2 (by simp) o q⟩
  item := by
    intro X hP hw hK hc i pins s σ H E I hf st hg
    subst hP hw hK
    obtain ⟨hz, hTI, hTO, h1, h2⟩ := st
    obtain ⟨xs, ys, x, y, hqx, hqy, hx, hy⟩ := hg
    obtain ⟨its, rv, p, _⟩ := sqk_at I hqx
    obtain ⟨its2, rv2, p2, _⟩ := sqk_at I hqy
    obtain ⟨u, hu, ru⟩ := rv.get hx
    obtain ⟨u2, hu2, ru2⟩ := rv2.get hy
    have hd := I.ok.hd hc
    have Wk := WalksT.zipD2 (prog := X.prog) (w := X.w) (A := X.A) S (draws_k (l := l1) (A := X.A.in1) hd n1 its.toArray) (draws_k (l := l2) (A := X.A.in1) hd n2 its2.toArray)
    have lx := (List.getElem?_eq_some_iff.mp hu).1
    have ly := (List.getElem?_eq_some_iff.mp hu2).1
    refine Wk.item i s _ _ (by simp; omega) ⟨hz, hTI, hTO, ⟨h1, p⟩, ⟨h2, p2⟩⟩ fun T vals h' tk hv hT hTt hmid hk => ?_
    obtain ⟨w1, w2, hw1, hw2, rfl⟩ := hv
    have e1 : w1 = u := by simpa [hu] using hw1.symm
    have e2 : w2 = u2 := by simpa [hu2] using hw2.symm
    subst e1 e2
    refine ⟨_, rfl, Wk.go elts kk tpos i T { s with heap := h', toks := tk } _ _ hmid fun h'' hst hk2 => ?_⟩
    have hTw := Wk.apart i T h' hmid
    have new : ObjOk X.prog X.w (upd H T (.tup [x, y])) h'' T (.tup [x, y]) := by
      obtain ⟨o, ho, hcl, n, hdt⟩ := hTt
      exact ⟨by show 2 ≤ sizeLine; decide, [w1, w2], .cons ru (.cons ru2 .nil), ⟨o, hk2 T o hTw ho, hcl, n, hdt⟩⟩
    have I1 : Inv X pins σ (upd H T (.tup [x, y])) { s with heap := h'', toks := tk } :=
      I.turnedNew (t' := tk) (ch := [z, TI, TO, i1, i2]) (fun c o hb q => by
        have hc' : c ∉ [z, TO, i1, i2] := fun m => hb (by
          have : c = z ∨ c = TO ∨ c = i1 ∨ c = i2 := by simpa using m
          rcases this with q | q | q | q <;> simp [q])
        exact hk2 c o hc' (hk c o hc' q)) hf hT new
    obtain ⟨g1, g2, g3, g4, g5⟩ := hst
    refine ⟨.ref T, _, I1, rfl, ⟨T, x, y, rfl, I.hok.fresh hT, rfl, fun l hl => by rw [sqk_inj I hl hqx]; exact hx, fun l hl => by rw [sqk_inj I hl hqy]; exact hy⟩, ⟨g1, g2, g3, g4.1, g5.1⟩, fun c hcm => ?_⟩
    have hlt : c < s.heap.objs.size := by
      have e' : c = z ∨ c = TI ∨ c = TO ∨ c = i1 ∨ c = i2 := by simpa using hcm
      rcases e' with q | q | q | q | q
      · rw [q]; exact Heap.lt_size hz
      · rw [q]; exact Heap.lt_size hTI
      · rw [q]; obtain ⟨_, _, e⟩ := hTO; exact Heap.lt_size e
      · rw [q]; obtain ⟨_, e1, _⟩ := itk_obj h1; exact Heap.lt_size e1
      · rw [q]; obtain ⟨_, e2, _⟩ := itk_obj h2; exact Heap.lt_size e2
    rw [upd_ne (Nat.ne_of_lt (Nat.lt_of_lt_of_le hlt hT))]
    exact (hf c hcm).1
  done := by
    intro X hP hw hK hc i pins s σ H E I hf st hg
    subst hP hw hK
    obtain ⟨hz, hTI, hTO, h1, h2⟩ := st
    obtain ⟨xs, ys, hqx, hqy, hend⟩ := hg
    obtain ⟨its, rv, p, _⟩ := sqk_at I hqx
    obtain ⟨its2, rv2, p2, _⟩ := sqk_at I hqy
    have l1' := rv.length
    have l2' := rv2.length
    have hd := I.ok.hd hc
    have Wk := WalksT.zipD2 (prog := X.prog) (w := X.w) (A := X.A) S (draws_k (l := l1) (A := X.A.in1) hd n1 its.toArray) (draws_k (l := l2) (A := X.A.in1) hd n2 its2.toArray)
    have e : i = min its.toArray.size its2.toArray.size := by simp [hend, l1', l2']
    subst e
    exact Wk.done s _ _ ⟨hz, hTI, hTO, ⟨h1, p⟩, ⟨h2, p2⟩⟩ fun h' tk hk => ⟨rfl, I.turnedL (t' := tk) (ch := [z, TI, TO, i1, i2]) (fun c o hb q => hk c o (fun m => hb (by
      have : c = z ∨ c = TO ∨ c = i1 ∨ c = i2 := by simpa using m
      rcases this with q | q | q | q <;> simp [q])) q) hf⟩
  self := fun A i s Q E st h => wpAny_pyIter_zip st.1 h
theorem begins_k (l : Bool) (a : Addr) (items : Array Value) : ∃ o, Begins (.ref a) o (fun h => SrcK l h a items) ∧ (∀ h it, h.get? it = some o → ItK l h it a 0) := by
  cases l with
  | true => exact ⟨_, begins_list a items, fun h it e => ⟨_, e, rfl, rfl⟩⟩
  | false => exact ⟨_, begins_tuple a items, fun h it e => ⟨_, e, rfl, rfl⟩⟩
def iZipK (K : PySem.W.Frag) (ta : TA) : TI := fun σ H R => ta σ H fun vs H1 => ∃ l1 l2 a b xs ys, vs = [.ref a, .ref b] ∧ SqK K l1 H1 a xs ∧ SqK K l2 H1 b ys ∧ R (ItzK K l1 l2 a b) H1
theorem pi_zipK {X : Cx} {e e2 : Expr} {ta : TA} {p pos tpos : Pos} {elts : List Expr} {kk : Nat} (hg : Gl X "zip") (hm : X.mg "zip" = none) (ha : PA X [e, e2] ta)
    (hs : starEach [e, e2] X.env = (false, eval e X.env) :: starEach [e2] X.env := by rfl) (hpl : (backTo pos (starEach [e2] X.env)).any (·.1) = false := by rfl) :
    PI X (.Tuple elts kk tpos) (.Call (.Name "zip" p) [e, e2] [] pos) (iZipK X.K ta) := by
  refine ⟨fun pins s σ H R I h => ?_⟩
  refine Call_ (ld_blt I hg hm PyProof.Rows.boot_zip (PyProof.Rows.callWith_type1 (thn (ha.run pos pins s σ H _ I h) fun us s1 ⟨vs, H1, I1, r1, q1⟩ => ?_) hs hpl))
  obtain ⟨l1, l2, a, b, xs, ys, ex, hqx, hqy, q⟩ := q1
  subst ex
  cases r1 with
  | cons r rr =>
    cases rr with
    | cons r' rr =>
      cases rr
      cases r
      cases r'
      obtain ⟨its, rv, p1, _⟩ := sqk_at I1 hqx
      obtain ⟨its2, rv2, p2, _⟩ := sqk_at I1 hqy
      obtain ⟨o1, B1, k1⟩ := begins_k l1 a its.toArray
      obtain ⟨o2, B2, k2⟩ := begins_k l2 b its2.toArray
      have la := src_lt p1
      have lb := src_lt p2
      refine zip_begins2 B1 B2 p1 p2 fun h' hz hTI hTO h1 h2 hsz hk => wpAny_pyIter_zip hz ?_
      have I2 : Inv X pins σ H1 { s1 with heap := h' } := I1.kept (t' := s1.toks) hk
      refine ⟨s1.heap.objs.size + 4, [s1.heap.objs.size + 4, s1.heap.objs.size + 2, s1.heap.objs.size + 3, s1.heap.objs.size, s1.heap.objs.size + 1], _, _, H1, rfl, I2,
        turn_zipK (l1 := l1) (l2 := l2) (zip_sep2 (fp1 := [a]) (fp2 := [b]) (by simpa using la) (by simpa using lb)) (Nat.ne_of_lt la) (Nat.ne_of_lt (Nat.lt_succ_of_lt lb)), ⟨hz, hTI, ⟨_, _, hTO⟩, k1 _ _ h1, k2 _ _ h2⟩, fun c hcm => ?_, q⟩
      have e' : c = s1.heap.objs.size + 4 ∨ c = s1.heap.objs.size + 2 ∨ c = s1.heap.objs.size + 3 ∨ c = s1.heap.objs.size ∨ c = s1.heap.objs.size + 1 := by simpa using hcm
      have hle : s1.heap.objs.size ≤ c := by
        rcases e' with z | z | z | z | z
        · rw [z]; exact Nat.le_add_right _ _
        · rw [z]; exact Nat.le_add_right _ _
        · rw [z]; exact Nat.le_add_right _ _
        · rw [z]; exact Nat.le_refl _
        · rw [z]; exact Nat.le_add_right _ _
      exact I1.fpOk hle (I1.hok.fresh hle)
/-! ### enumerate -/
def IteK (K : PySem.W.Frag) (l : Bool) (a : Addr) : It :=
  ⟨fun i H => ∃ (xs : List V) (x : V), SqK K l H a xs ∧ xs[i]? = some x, fun i H v H' => ∃ T x, v = .ref T ∧ H T = none ∧ H' = upd H T (.tup [.int (i : Nat), x]) ∧ ∀ xs, SqK K l H a xs → xs[i]? = some x, fun i H => ∃ xs : List V, SqK K l H a xs ∧ i = xs.length⟩
theorem turn_enumK {P : Program} {w : World} {K : PySem.W.Frag} {elts : List Expr} {kk : Nat} {tpos : Pos} {l : Bool} (a e it : Addr) (hei : e ≠ it) (hea : e ≠ a) (hai : a ≠ it) :
    Turn P w K (.Tuple elts kk tpos) (IteK K l a) [e, it] e (fun i h => (∃ old, IsEnum h e it (0 + (i : Int)) old) ∧ ItK l h it a i) where
  mem := by simp
  obj := fun i h st b hb => by
    obtain ⟨⟨old, he⟩, h1⟩ := st
    have e' : b = e ∨ b = it := by simpa using hb
    rcases e' with z | z
    · rw [z]; exact ⟨_, he, fun v q => nomatch q⟩
    · rw [z]; exact itk_obj h1
  keep := fun i h h' st k => let ⟨⟨old, he⟩, hi⟩ := st; ⟨⟨old, k e (by simp) _ he⟩, itk_at hi fun o q => k it (by simp) o q⟩
  item := by
    intro X hP hw hK hc i pins s σ H E I hf st hg
    subst hP hw hK
    obtain ⟨he, h1⟩ := st
    obtain ⟨xs, x, hqx, hx⟩ := hg
    obtain ⟨its, rv, p, _⟩ := sqk_at I hqx
    obtain ⟨u, hu, ru⟩ := rv.get hx
    have hd := I.ok.hd hc
    have Wk := WalksT.enumFrom (prog := X.prog) (w := X.w) (A := X.A) 0 (draws_k (l := l) (A := X.A.in1) hd hai its.toArray) e hei (by simp [hei, hea]) (by simp)
    have lx := (List.getElem?_eq_some_iff.mp hu).1
    refine Wk.item i s _ _ (by simpa using lx) ⟨he, h1, p⟩ fun T vals h' tk hv hT hTt hmid hk => ?_
    obtain ⟨t0, w1, hw1, rfl⟩ := hv
    have e1 : w1 = u := by simpa [hu] using hw1.symm
    subst e1
    refine ⟨_, rfl, Wk.go elts kk tpos i T { s with heap := h', toks := tk } _ _ hmid fun h'' hst hk2 => ?_⟩
    have hTw := Wk.apart i T h' hmid
    have new : ObjOk X.prog X.w (upd H T (.tup [.int (i : Nat), x])) h'' T (.tup [.int (i : Nat), x]) := by
      obtain ⟨o, ho, hcl, n, hdt⟩ := hTt
      exact ⟨by show 2 ≤ sizeLine; decide, [.int (0 + (i : Int)) t0, w1], .cons ⟨t0, by simp⟩ (.cons ru .nil), ⟨o, hk2 T o hTw ho, hcl, n, hdt⟩⟩
    have I1 : Inv X pins σ (upd H T (.tup [.int (i : Nat), x])) { s with heap := h'', toks := tk } :=
      I.turnedNew (t' := tk) (ch := [e, it]) (fun c o hb q => hk2 c o hb (hk c o hb q)) hf hT new
    obtain ⟨g1, g2⟩ := hst
    refine ⟨.ref T, _, I1, rfl, ⟨T, x, rfl, I.hok.fresh hT, rfl, fun l hl => by rw [sqk_inj I hl hqx]; exact hx⟩, ⟨g1, g2.1⟩, fun c hcm => ?_⟩
    have hlt : c < s.heap.objs.size := by
      have e' : c = e ∨ c = it := by simpa using hcm
      rcases e' with q | q
      · rw [q]; obtain ⟨_, e⟩ := he; exact Heap.lt_size e
      · rw [q]; obtain ⟨_, e1, _⟩ := itk_obj h1; exact Heap.lt_size e1
    rw [upd_ne (Nat.ne_of_lt (Nat.lt_of_lt_of_le hlt hT))]
    exact (hf c hcm).1
  done := by
    intro X hP hw hK hc i pins s σ H E I hf st hg
    subst hP hw hK
    obtain ⟨he, h1⟩ := st
    obtain ⟨xs, hqx, hend⟩ := hg
    obtain ⟨its, rv, p, _⟩ := sqk_at I hqx
    have l1' := rv.length
    have hd := I.ok.hd hc
    have Wk := WalksT.enumFrom (prog := X.prog) (w := X.w) (A := X.A) 0 (draws_k (l := l) (A := X.A.in1) hd hai its.toArray) e hei (by simp [hei, hea]) (by simp)
    have e2 : i = its.toArray.size := by simp [hend, l1']
    subst e2
    exact Wk.done s _ _ ⟨he, h1, p⟩ fun h' tk hk => ⟨rfl, I.turnedL (t' := tk) (ch := [e, it]) (fun c o hb q => hk c o hb q) hf⟩
  self := fun A i s Q E st h => let ⟨⟨_, he⟩, _⟩ := st; wpAny_pyIter_enum he h
end DL
end
/-! ### DL10 -/
section
set_option linter.all false
set_option maxRecDepth 100000
/-! DL10: zip, enumerate over data; methods of lists and dicts; fresh lists and dicts by calls; a def by its body. -/
namespace DL
open PySem PySem.Spec L2
open PyProof.Rows hiding St

section
open Builtin
/-- enumerate(v), whatever v begins -/
theorem meets_enum1 {v : Value} {o : Obj} {H : Heap → Prop} (B : Begins v o H) :
    Meets (Builtin.«enumerate.__new__» ⟨[.type "enumerate", v], []⟩) (fun _ R s => H s.heap ∧
      R (.ok (.ret (.ref (s.heap.push o).objs.size))) { s with heap := (s.heap.push o).push { cls := .type "enumerate", data := .fields #[.none, .bool false, .ref s.heap.objs.size, rawInt 0, .none, .none] } }) :=
  .of_wp fun prog w A R s h => by
    obtain ⟨hp, g, d, tk, os⟩ := s; obtain ⟨h1, h⟩ := h
    have hsub := sub_enumerate
    have q1 : ∀ {A' : Around} {E : Value → Shared → Prop} {Q : Value → Shared → Prop}, Q (.ref hp.objs.size) ⟨hp.push o, g, d, tk, os⟩ → wpAny (model prog w) A' (pyIter v) Q E ⟨hp, g, d, tk, os⟩ :=
      fun q => B.iter prog w _ _ ⟨hp, g, d, tk, os⟩ _ h1 q
    wp_walk using q1
    refine wpAny_stack_any fun st => wpAny_pure ?_
    split
    · rename_i c _ _ _ _ _
      cases (c == Value.type "enumerate")
      · wp_walk using q1
        exact ⟨_, rfl, h⟩
      · wp_walk using q1
        exact ⟨_, rfl, h⟩
    · wp_walk using q1
      exact ⟨_, rfl, h⟩
theorem enum_begins1 {prog : Program} {w : World} {A : Around} {E : Value → Shared → Prop} {s : Shared} {v : Value} {o : Obj} {H : Heap → Prop} {Q : Value → Shared → Prop} (B : Begins v o H) (h1 : H s.heap)
    (h : ∀ h', IsEnum h' (s.heap.objs.size + 1) s.heap.objs.size 0 .none → h'.get? s.heap.objs.size = some o → h'.objs.size = s.heap.objs.size + 2 →
      (∀ b o, s.heap.get? b = some o → h'.get? b = some o) → Q (.ref (s.heap.objs.size + 1)) { s with heap := h' }) :
    wpAny (model prog w) A (call (.type "enumerate") [v]) Q E s := by
  refine callType_new F.called_enumerate (by decide) (F.typeCall_enumerate_1 _) (F.newCall_enumerate_1 _) (fun obj => F.args_object_init_2 obj _) F.entry_enumerate_new
    (meets_enum1 B) ⟨h1, ?_⟩
  have hz : (s.heap.push o).objs.size = s.heap.objs.size + 1 := Heap.size_push ..
  show _ ∧ _
  rw [hz]
  have he : IsEnum ((s.heap.push o).push { cls := .type "enumerate", data := .fields #[.none, .bool false, .ref s.heap.objs.size, rawInt 0, .none, .none] }) (s.heap.objs.size + 1) s.heap.objs.size 0 .none := by
    have := Heap.get?_push_size (s.heap.push o) (o := { cls := .type "enumerate", data := .fields #[.none, .bool false, .ref s.heap.objs.size, rawInt 0, .none, .none] }) rfl
    rw [hz] at this; exact this
  refine ⟨⟨_, he, rfl⟩, h _ he (Heap.get?_push_of_some _ (Heap.get?_push_size _ B.free)) (by rw [Heap.size_push, hz]) fun b o x => Heap.get?_push_of_some _ (Heap.get?_push_of_some _ x)⟩
end
def iEnumK (K : PySem.W.Frag) (ta : TA) : TI := fun σ H R => ta σ H fun vs H1 => ∃ l a xs, vs = [.ref a] ∧ SqK K l H1 a xs ∧ R (IteK K l a) H1
theorem pi_enumK {X : Cx} {e : Expr} {ta : TA} {p pos tpos : Pos} {elts : List Expr} {kk : Nat} (hg : Gl X "enumerate") (hm : X.mg "enumerate" = none) (ha : PA X [e] ta) (hs : starEach [e] X.env = [(false, eval e X.env)] := by rfl) :
    PI X (.Tuple elts kk tpos) (.Call (.Name "enumerate" p) [e] [] pos) (iEnumK X.K ta) := by
  refine ⟨fun pins s σ H R I h => ?_⟩
  refine Call_ (ld_blt I hg hm boot_enumerate (PyProof.Rows.callWith_type1 (thn (ha.run pos pins s σ H _ I h) fun us s1 ⟨vs, H1, I1, r1, q1⟩ => ?_) hs rfl))
  obtain ⟨l, a, xs, ex, hq, q⟩ := q1
  subst ex
  cases r1 with
  | cons r rr =>
    cases rr
    cases r
    have fin : ∀ h', IsEnum h' (s1.heap.objs.size + 1) s1.heap.objs.size 0 .none → ItK l h' s1.heap.objs.size a 0 → h'.objs.size = s1.heap.objs.size + 2 → (∀ b o, s1.heap.get? b = some o → h'.get? b = some o) → a < s1.heap.objs.size →
        wpAny (model X.prog X.w) X.A (pyIter (.ref (s1.heap.objs.size + 1))) (PIE X pins σ (.Tuple elts kk tpos) R) X.xe { s1 with heap := h' } := fun h' he hit hsz hk la => by
      refine wpAny_pyIter_enum he ?_
      have I2 : Inv X pins σ H1 { s1 with heap := h' } := I1.kept (t' := s1.toks) hk
      refine ⟨s1.heap.objs.size + 1, [s1.heap.objs.size + 1, s1.heap.objs.size], _, _, H1, rfl, I2, turn_enumK (l := l) a (s1.heap.objs.size + 1) s1.heap.objs.size (Nat.succ_ne_self _) (Nat.ne_of_gt (Nat.lt_succ_of_lt la)) (Nat.ne_of_lt la), ⟨⟨.none, he⟩, hit⟩, fun b hb => ?_, q⟩
      have e' : b = s1.heap.objs.size + 1 ∨ b = s1.heap.objs.size := by simpa using hb
      have hle : s1.heap.objs.size ≤ b := by
        rcases e' with z | z
        · rw [z]; exact Nat.le_add_right _ _
        · rw [z]; exact Nat.le_refl _
      exact I1.fpOk hle (I1.hok.fresh hle)
    obtain ⟨its, rv, p', hz⟩ := sqk_at I1 hq
    obtain ⟨o1, B1, k1⟩ := begins_k l a its.toArray
    exact enum_begins1 B1 p' fun h' he hit hsz hk => fin h' he (k1 _ _ hit) hsz hk (src_lt p')

/-! ### over data -/
/-- the items of a list or tuple, with the guard -/
def srcD (s : Sto) : D → Option (List D × List (Nat × Ob))
  | .tup ds => some (ds, [])
  | .loc n => match s[n]? with
    | some (.lst ds) => some (ds, [(n, .lst ds)])
    | _ => none
  | _ => none
def mZip (m n : ME) : MI := fun r s => (m r s).bind fun d s1 => (n r s1).bind fun e s2 => match srcD s2 d, srcD s2 e with
  | some (xs, g1), some (ys, g2) => .ok (List.zipWith (fun x y => .tup [x, y]) xs ys, g1 ++ g2) s2
  | _, _ => .bad
def numbered (k : Nat) : List D → List D
  | [] => []
  | d :: ds => .tup [.int (k : Int), d] :: numbered (k + 1) ds
def mEnum (m : ME) : MI := fun r s => (m r s).bind fun d s1 => match srcD s1 d with
  | some (xs, g1) => .ok (numbered 0 xs, g1) s1
  | none => .bad
theorem numbered_get : ∀ (ds : List D) (k i : Nat), (numbered k ds)[i]? = (ds[i]?).map fun d => D.tup [.int ((k + i : Nat) : Int), d]
  | [], _, _ => by simp [numbered]
  | d :: ds, k, 0 => by simp [numbered]
  | d :: ds, k, i + 1 => by
    simp only [numbered, List.getElem?_cons_succ]
    rw [numbered_get ds (k + 1) i]
    have : k + 1 + i = k + (i + 1) := by omega
    rw [this]
theorem numbered_length : ∀ (ds : List D) (k : Nat), (numbered k ds).length = ds.length
  | [], _ => rfl
  | d :: ds, k => by simp [numbered, numbered_length ds]
section
variable {K : PySem.W.Frag} {p1 : List Addr} {H1 : Hp} {s1 : Sto}
/-- as long as the guards stand the source stands -/
theorem src_stays (rs1 : RS K p1 s1 H1) {d : D} {v : V} {ds : List D} {gs : List (Nat × Ob)} (rd : RD K p1 H1 d v) (h : srcD s1 d = some (ds, gs)) :
    ∃ (l : Bool) (a : Addr), v = .ref a ∧ ∀ p H s, Ex p1 H1 p H → RS K p s H → guard gs s = true → ∃ us, SqK K l H a us ∧ RDs K p H ds us := by
  cases rd with
  | tup h1 r1 =>
    simp only [srcD] at h
    cases h
    exact ⟨false, _, rfl, fun p H s ex _ _ => ⟨_, ex.sqt h1, r1.mono ex⟩⟩
  | loc h1 =>
    simp only [srcD] at h
    split at h
    · rename_i ds hn
      cases h
      refine ⟨true, _, rfl, fun p H s ex rs g => ?_⟩
      have e := guard_iff.mp g _ (List.mem_cons_self)
      obtain ⟨a, o, q1, q2, q3⟩ := rs.mut e
      rw [ex.get h1] at q1; cases q1
      cases q3 with
      | lst r => exact ⟨_, SqL.of q2, r⟩
    · cases h
  | non => simp [srcD] at h
  | bl => simp [srcD] at h
  | int => simp [srcD] at h
  | str => simp [srcD] at h
  | con => simp [srcD] at h
theorem guard_app {g1 g2 : List (Nat × Ob)} {s : Sto} (h : guard (g1 ++ g2) s = true) : guard g1 s = true ∧ guard g2 s = true := by
  rw [guard_iff] at h
  exact ⟨guard_iff.mpr fun q hq => h q (List.mem_append_left _ hq), guard_iff.mpr fun q hq => h q (List.mem_append_right _ hq)⟩
theorem src_now {s2 : Sto} {d : D} {ds : List D} {gs : List (Nat × Ob)} (h : srcD s2 d = some (ds, gs)) : guard gs s2 = true := by
  rw [guard_iff]
  intro q hq
  cases d <;> simp only [srcD] at h <;> try (cases h; done)
  · cases h; cases hq
  · split at h
    · rename_i e3
      cases h
      rw [List.mem_singleton.mp hq]
      exact e3
    · cases h
end
section
variable {X : Cx} {W : WX} {pos : Pos} {m n : ME}
theorem pair_rd {K : PySem.W.Frag} {p : List Addr} {H : Hp} {s : Sto} {x y : D} {v w : V} {T : Addr} (rs : RS K p s H) (rx : RD K p H x v) (ry : RD K p H y w) (hT : H T = none) :
    Ex p H p (upd H T (.tup [v, w])) ∧ RS K p s (upd H T (.tup [v, w])) ∧ RD K p (upd H T (.tup [v, w])) (.tup [x, y]) (.ref T) := by
  have ex : Ex p H p (upd H T (.tup [v, w])) := ex_new0 hT
  exact ⟨ex, rs.beside hT, .tup (SqT.of upd_same) (.cons (rx.mono ex) (.cons (ry.mono ex) .nil))⟩
theorem di_zip {e e2 : Expr} {p tpos : Pos} {elts : List Expr} {kk : Nat} (hg : Gl X "zip") (hm : X.mg "zip" = none) (ha : DE X W e m) (hb : DE X W e2 n)
    (hs : starEach [e, e2] X.env = (false, eval e X.env) :: starEach [e2] X.env := by rfl) (hs2 : starEach [e2] X.env = (false, eval e2 X.env) :: starEach [] X.env := by rfl) (hpl : (backTo pos (starEach [e2] X.env)).any (·.1) = false := by rfl) :
    DI X W (.Tuple elts kk tpos) (.Call (.Name "zip" p) [e, e2] [] pos) (mZip m n) := PI.imp (pi_zipK hg hm (pa_cons ha (pa_cons hb pa_nil hs2) hs) hs hpl) fun t H Q ⟨p, r, s, he, hs, q⟩ => by
  refine tE.stepK he hs q fun p1 H1 d v s1 e1 r1 he1 rd q1 => ?_
  refine tE.stepK he1 r1 q1 fun p2 H2 f w s2 e2 r2 he2 rd2 q2 => ?_
  split at q2
  · rename_i xs g1 ys g2 h1 h2
    obtain ⟨l1, a, rfl, k1⟩ := src_stays r2 (rd.mono e2) h1
    obtain ⟨l2, b, rfl, k2⟩ := src_stays r2 rd2 h2
    have gq1 := src_now h1
    have gq2 := src_now h2
    obtain ⟨us, su, ru⟩ := k1 p2 H2 s2 .refl r2 gq1
    obtain ⟨ws, sw, rw2⟩ := k2 p2 H2 s2 .refl r2 gq2
    refine ⟨l1, l2, a, b, us, ws, rfl, su, sw, q2 p2 H2 .refl r2 _ ?_⟩
    intro p3 H3 s3 ex rs g
    obtain ⟨ga, gb⟩ := guard_app g
    obtain ⟨us3, su3, ru3⟩ := k1 p3 H3 s3 ex rs ga
    obtain ⟨ws3, sw3, rw3⟩ := k2 p3 H3 s3 ex rs gb
    refine ⟨fun i d hd => ?_, us3, ws3, su3, sw3, by rw [List.length_zipWith, ru3.length, rw3.length]⟩
    · simp only [List.getElem?_zipWith] at hd
      cases hx : xs[i]? with
      | none => simp [hx] at hd
      | some x =>
        cases hy : ys[i]? with
        | none => simp [hx, hy] at hd
        | some y =>
          simp only [hx, hy, Option.some.injEq] at hd
          subst hd
          obtain ⟨v, hv, rv⟩ := ru3.get hx
          obtain ⟨w, hw, rw4⟩ := rw3.get hy
          refine ⟨⟨us3, ws3, v, w, su3, sw3, hv, hw⟩, fun z H' ⟨T, v', w', e3, hT, e4, c1, c2⟩ => ?_⟩
          have := c1 us3 su3
          rw [hv] at this; cases this
          have := c2 ws3 sw3
          rw [hw] at this; cases this
          subst e3 e4
          exact pair_rd rs rv rw4 hT
  · exact q2.elim
theorem di_enum {e : Expr} {p tpos : Pos} {elts : List Expr} {kk : Nat} (hg : Gl X "enumerate") (hm : X.mg "enumerate" = none) (ha : DE X W e m) (hs : starEach [e] X.env = [(false, eval e X.env)] := by rfl) :
    DI X W (.Tuple elts kk tpos) (.Call (.Name "enumerate" p) [e] [] pos) (mEnum m) := PI.imp (pi_enumK hg hm (pa_cons ha pa_nil (by rw [hs]; rfl)) hs) fun t H Q ⟨p, r, s, he, hs, q⟩ => by
  refine tE.stepK he hs q fun p1 H1 d v s1 e1 r1 he1 rd q1 => ?_
  split at q1
  · rename_i xs g1 h1
    obtain ⟨l1, a, rfl, k1⟩ := src_stays r1 rd h1
    obtain ⟨us, su, ru⟩ := k1 p1 H1 s1 .refl r1 (src_now h1)
    refine ⟨l1, a, us, rfl, su, q1 p1 H1 .refl r1 _ ?_⟩
    intro p3 H3 s3 ex rs g
    obtain ⟨us3, su3, ru3⟩ := k1 p3 H3 s3 ex rs g
    refine ⟨fun i d hd => ?_, us3, su3, by rw [numbered_length, ru3.length]⟩
    rw [numbered_get] at hd
    simp only [Option.map_eq_some_iff] at hd
    obtain ⟨x, hx, rfl⟩ := hd
    obtain ⟨v, hv, rv⟩ := ru3.get hx
    refine ⟨⟨us3, v, su3, hv⟩, fun z H' ⟨T, v', e3, hT, e4, c1⟩ => ?_⟩
    have := c1 us3 su3
    rw [hv] at this; cases this
    subst e3 e4
    have e5 : ((0 + i : Nat) : Int) = (i : Nat) := by simp
    rw [e5]
    exact pair_rd rs (.int _) rv hT
  · exact q1.elim
end
end DL
end
/-! ### DL11 -/
section
set_option linter.all false
set_option maxRecDepth 100000
/-! DL11: methods of lists and dicts; fresh lists and dicts by calls; a def by its body; what is forgotten behind a call. -/
namespace DL
open PySem PySem.Spec L2
open PyProof.Rows hiding St

/-! ### methods of lists -/
abbrev GM := D → List D → Sto → Option (D × Sto)
def MtD (X : Cx) (id : String) (g : GM) : Prop := MtR X id (fun x vs H Q => ∃ p s d ds z s', RS X.K p s H ∧ RD X.K p H d x ∧ RDs X.K p H ds vs ∧ g d ds s = some (z, s') ∧ Fin X.K p H z s' Q)
theorem MtR.imp {X : Cx} {id : String} {r r' : V → List V → Hp → VK → Prop} (h : MtR X id r) (g : ∀ x vs H Q, r' x vs H Q → r x vs H Q) : MtR X id r' := fun pins s σ H x xs v us Q I rx rv q => h pins s σ H x xs v us Q I rx rv (g x xs H Q q)
def mMB (g : GM) (mo : ME) (ma : MA) : ME := fun r s => (mo r s).bind fun d s1 => match itL s1 d with
  | some _ => (ma r s1).bind fun ds s2 => R.of (g d ds s2)
  | none => .bad
def gAppend : GM
  | .loc n, [y], s => match s[n]? with
    | some (.lst xs) => if xs.length < sizeLine then some (.non, s.set n (.lst (xs ++ [y]))) else none
    | _ => none
  | _, _, _ => none
def gPop : GM
  | .loc n, [], s => match s[n]? with
    | some (.lst xs) => (xs[xs.length - 1]?).map fun y => (y, s.set n (.lst xs.dropLast))
    | _ => none
  | .loc n, [.int i], s => match s[n]? with
    | some (.lst xs) => if -(2 ^ 63) ≤ i ∧ i < 2 ^ 63 then (seqIndex? i xs.length).bind fun k => (xs[k]?).map fun y => (y, s.set n (.lst (xs.eraseIdx k))) else none
    | _ => none
  | _, _, _ => none
def gExtend : GM
  | .loc n, [.loc m], s => match s[n]?, s[m]? with
    | some (.lst xs), some (.lst ys) => if xs.length + ys.length ≤ sizeLine then some (.non, s.set n (.lst (xs ++ ys))) else none
    | _, _ => none
  | _, _, _ => none
section
variable {X : Cx} {W : WX} {o e : Expr} {es : List Expr} {mo : ME} {ma : MA} {name : Str} {id : String} {g : GM} {apos cpos : Pos}
theorem de_bm (slot : Slot "list" name id) (hty : typeOf (.builtin id) = pure (.type "method_descriptor")) (hm : MtD X id g) (ho : DE X W o mo) (ha : DA X W (e :: es) ma)
    (hbase : attributeBase o name X.env (eval o X.env) = eval o X.env := by rfl)
    (hfew : ((backTo cpos (starEach (e :: es) X.env)).all (fun x => !x.1) && (backToKw cpos (keywordEach [] X.env)).all (fun x => x.1.isSome)
      && decide ((e :: es).length + ([] : List Keyword).length + (if ([] : List Keyword).isEmpty then 0 else 1) < 30)) = true := by rfl)
    (hline : (apos.endLine == cpos.line) = true := by rfl) (hs : starEach (e :: es) X.env = (false, eval e X.env) :: starEach es X.env := by rfl) (hplain : (backTo cpos (starEach es X.env)).any (·.1) = false := by rfl) :
    DE X W (.Call (.Attribute o name apos) (e :: es) [] cpos) (mMB g mo ma) := PE.imp (pe_bm PySem.F.plainAttrs_list slot hty hm ho ha hbase hfew hline hs hplain) fun t H Q ⟨p, r, s, he, hs, q⟩ => by
  refine tE.stepK he hs q fun p1 H1 d v s1 e1 r1 he1 rd q1 => ?_
  split at q1
  · rename_i xs hx
    obtain ⟨a, us, rfl, h1, h2⟩ := itL_rd r1 rd hx
    refine ⟨.inl ⟨rfl, us, SqL.of h1⟩, p1, r, s1, he1, r1, (pR.bind q1).imp fun p2 H2 ds s2 e2 r2 q2 vs rds => ?_⟩
    obtain ⟨z, s', hz, hf⟩ := pR.fin q2
    exact ⟨p2, s2, d, ds, z, s', r2, rd.mono e2, rds, hz, hf⟩
  · exact q1.elim
theorem de_bm0 (slot : Slot "list" name id) (hty : typeOf (.builtin id) = pure (.type "method_descriptor")) (hm : MtD X id g) (ho : DE X W o mo)
    (hbase : attributeBase o name X.env (eval o X.env) = eval o X.env := by rfl) (hline : (apos.endLine == cpos.line) = true := by rfl) : DE X W (.Call (.Attribute o name apos) [] [] cpos) (mMB g mo mNil) := PE.imp (pe_bm0 PySem.F.plainAttrs_list slot hty hm ho hbase hline) fun t H Q ⟨p, r, s, he, hs, q⟩ => by
  refine tE.stepK he hs q fun p1 H1 d v s1 e1 r1 he1 rd q1 => ?_
  split at q1
  · rename_i xs hx
    obtain ⟨a, us, rfl, h1, h2⟩ := itL_rd r1 rd hx
    refine ⟨.inl ⟨rfl, us, SqL.of h1⟩, ?_⟩
    obtain ⟨z, s', hz, hf⟩ := pR.fin q1
    exact ⟨p1, s1, d, [], z, s', r1, rd, .nil, hz, hf⟩
  · exact q1.elim
theorem md_append : MtD X "list.append" gAppend := MtR.imp mt_append fun x vs H Q ⟨p, s, d, ds, z, s', hs, rd, rds, hg, hf⟩ => by
  unfold gAppend at hg
  split at hg
  · split at hg
    · rename_i n y xs hn
      split at hg
      · rename_i hl
        cases hg
        obtain ⟨a, us, rfl, h1, h2, h3⟩ := lst_rd hs rd hn
        obtain ⟨v, rfl, rv⟩ := one_rd rds
        have ex : Ex p H p (upd H a (.lst (us ++ [v]))) := ex_upd h3 h1 trivial
        exact ⟨a, us, v, rfl, rfl, h1, by rw [← h2.length]; exact hl, hf p _ .non ex (hs.put h3 h1 trivial (.lst ((h2.append (.cons rv .nil)).mono ex))) .non⟩
      · cases hg
    · cases hg
  · cases hg
theorem RDs.dropLast {K : PySem.W.Frag} {p : List Addr} {H : Hp} {ds : List D} {vs : List V} (r : RDs K p H ds vs) : RDs K p H ds.dropLast vs.dropLast := by
  rw [List.dropLast_eq_take, List.dropLast_eq_take, r.length]; exact r.take _
theorem RDs.eraseIdx {K : PySem.W.Frag} {p : List Addr} {H : Hp} : ∀ {ds : List D} {vs : List V} (k : Nat), RDs K p H ds vs → RDs K p H (ds.eraseIdx k) (vs.eraseIdx k)
  | _, _, _, .nil => .nil
  | _, _, 0, .cons _ r => r
  | _, _, k + 1, .cons h r => .cons h (RDs.eraseIdx k r)
theorem md_pop : MtD X "list.pop" gPop := fun pins s σ H x xs v us Q I rx rv h => by
  obtain ⟨p, st, d, ds, z, s', hs, rd, rds, hg, hf⟩ := h
  unfold gPop at hg
  split at hg
  · split at hg
    · rename_i n xs hn
      simp only [Option.map_eq_some_iff] at hg
      obtain ⟨y, hy, hz⟩ := hg
      cases hz
      obtain ⟨a, ws, rfl, h1, h2, h3⟩ := lst_rd hs rd hn
      cases rds
      obtain ⟨w, hw, rw1⟩ := h2.get hy
      have ex : Ex p H p (upd H a (.lst ws.dropLast)) := ex_upd h3 h1 trivial
      exact mt_pop pins s σ H _ _ v us Q I rx rv ⟨a, ws, w, rfl, rfl, h1, by rw [← h2.length]; exact hw, hf p _ w ex (hs.put h3 h1 trivial (.lst (h2.dropLast.mono ex))) (rw1.mono ex)⟩
    · cases hg
  · split at hg
    · rename_i n i xs hn
      split at hg
      · rename_i hi
        simp only [Option.bind_eq_some_iff, Option.map_eq_some_iff] at hg
        obtain ⟨k, hk, y, hy, hz⟩ := hg
        cases hz
        obtain ⟨a, ws, rfl, h1, h2, h3⟩ := lst_rd hs rd hn
        obtain ⟨v2, rfl, rv2⟩ := one_rd rds
        cases rv2
        obtain ⟨w, hw, rw1⟩ := h2.get hy
        have ex : Ex p H p (upd H a (.lst (ws.eraseIdx k))) := ex_upd h3 h1 trivial
        exact mt_popAt pins s σ H _ _ v us Q I rx rv ⟨a, ws, _, k, w, rfl, rfl, h1, hi.1, hi.2, by rw [← h2.length]; exact hk, hw, hf p _ w ex (hs.put h3 h1 trivial (.lst ((h2.eraseIdx k).mono ex))) (rw1.mono ex)⟩
      · cases hg
    · cases hg
  · cases hg
theorem md_extend : MtD X "list.extend" gExtend := MtR.imp mt_extend fun x vs H Q ⟨p, s, d, ds, z, s', hs, rd, rds, hg, hf⟩ => by
  unfold gExtend at hg
  split at hg
  · split at hg
    · rename_i n m xs ys hn hm
      split at hg
      · rename_i hl
        cases hg
        obtain ⟨a, us, rfl, h1, h2, h3⟩ := lst_rd hs rd hn
        obtain ⟨v, rfl, rv⟩ := one_rd rds
        obtain ⟨b, ws, rfl, g1, g2, g3⟩ := lst_rd hs rv hm
        have ex : Ex p H p (upd H a (.lst (us ++ ws))) := ex_upd h3 h1 trivial
        exact ⟨a, b, us, ws, rfl, rfl, h1, g1, by rw [← h2.length, ← g2.length]; exact hl, hf p _ .non ex (hs.put h3 h1 trivial (.lst ((h2.append g2).mono ex))) .non⟩
      · cases hg
    · cases hg
  · cases hg
/-! ### d.get(k, x) -/
def kvsOf (s : Sto) (n : Nat) : Option (List (Key × D)) := match s[n]? with
  | some (.dct kvs) => some kvs
  | some (.lok kvs) => some kvs
  | _ => none
def mGet2 (mo mk mx : ME) : ME := fun r s => (mo r s).bind fun d s1 => match d with
  | .loc n => (match kvsOf s1 n with
    | some _ => (mk r s1).bind fun k s2 => (mx r s2).bind fun x s3 => (match kvsOf s3 n, keyD k with
      | some kvs, some k => .ok ((dGet kvs k).getD x) s3
      | _, _ => .bad)
    | none => .bad)
  | _ => .bad
theorem kvs_rd {K : PySem.W.Frag} {p : List Addr} {H : Hp} {s : Sto} {n : Nat} {v : V} {kvs : List (Key × D)} (hs : RS K p s H) (r : RD K p H (.loc n) v) (h : kvsOf s n = some kvs) : ∃ a us, v = .ref a ∧ Rd H a (.dK us) ∧ RF K p H kvs us := by
  unfold kvsOf at h
  split at h
  · rename_i kvs' hn
    cases h
    obtain ⟨a, us, e, h1, h2, h3⟩ := dct_rd hs r hn
    exact ⟨a, us, e, .inl h1, h2⟩
  · rename_i kvs' hn
    cases h
    obtain ⟨a, o, us, e, h1, h2, h3⟩ := lok_rd hs r hn
    exact ⟨a, us, e, .inr ⟨o, h1⟩, h2⟩
  · cases h
theorem de_get2 {k x : Expr} {mk mx : ME} (hu : X.A.units + 1 < cLine) (ho : DE X W o mo) (hk : DE X W k mk) (hx : DE X W x mx) (hm : M2 X o "get" apos k x cpos := by exact ⟨rfl, rfl, rfl, rfl⟩) : DE X W (.Call (.Attribute o "get" apos) [k, x] [] cpos) (mGet2 mo mk mx) :=
  PE.imp (pe_dget2 hu ho hk hx hm) fun t H Q ⟨p, r, s, he, hs, q⟩ => by
    refine tE.stepK he hs q fun p1 H1 d v s1 e1 r1 he1 rd q1 => ?_
    split at q1
    · rename_i n
      split at q1
      · rename_i kvs0 hk0
        obtain ⟨a, us, rfl, h1, h2⟩ := kvs_rd r1 rd hk0
        refine ⟨a, rfl, .inl ⟨us, h1⟩, ?_⟩
        refine tE.stepK he1 r1 q1 fun p2 H2 kd kv s2 e2 r2 he2 rd2 q2 => ?_
        refine tE.stepK he2 r2 q2 fun p3 H3 xd xv s3 e3 r3 he3 rd3 q3 => ?_
        split at q3
        · rename_i kvs3 k3 hk3 hkk
          obtain ⟨a', us3, ea, g1, g2⟩ := kvs_rd r3 ((rd.mono e2).mono e3) hk3
          cases ea
          cases hd : dGet kvs3 k3 with
          | none =>
            refine ⟨none, .inl ⟨us3, k3, g1, keyD_rd (rd2.mono e3) hkk, (dGet_none g2 hd).symm⟩, ?_⟩
            rw [hd] at q3
            exact q3 p3 H3 .refl r3 xv rd3
          | some z =>
            obtain ⟨w, hw, rw1⟩ := dGet_rd g2 hd
            refine ⟨some w, .inl ⟨us3, k3, g1, keyD_rd (rd2.mono e3) hkk, hw.symm⟩, ?_⟩
            rw [hd] at q3
            exact q3 p3 H3 .refl r3 w rw1
        · exact q3.elim
      · exact q1.elim
    · exact q1.elim
end

/-! ### calls that make a list -/
abbrev GL := List D → Sto → Option (List D)
def CallFL (X : Cx) (f : Value) (g : GL) : Prop := CallR X f (fun vs H Q => ∃ p s ds us, RS X.K p s H ∧ RDs X.K p H ds vs ∧ g ds s = some us ∧ ∀ a ws, H a = none → RDs X.K p H us ws → Q (.ref a) (upd H a (.lst ws)))
def mCallL (g : GL) (ma : MA) : MA := fun r s => (ma r s).bind fun ds s1 => match g ds s1 with
  | some us => .ok us s1
  | none => .bad
section
variable {X : Cx} {W : WX} {e : Expr} {es : List Expr} {ma : MA} {pos : Pos}
theorem dl_callB {x : Str} {id : String} {g : GL} {p : Pos} (hc : CallFL X (.builtin id) g) (hg : Gl X x) (hm : X.mg x = none) (hv : bootBuiltins x = some (.builtin id)) (ha : DA X W (e :: es) ma) (hn : x ≠ "__name__" := by decide) (hdb : (x == ("__debug__" : Str)) = false := by decide)
    (he : starEach (e :: es) X.env = (false, eval e X.env) :: starEach es X.env := by rfl) (hpl : (backTo pos (starEach es X.env)).any (·.1) = false := by rfl) : DLs X W (.Call (.Name x p) (e :: es) [] pos) (mCallL g ma) :=
  PE.imp (pe_callB hc hg hm hv ha hn hdb he hpl) fun t H Q ⟨p, r, s, he, hs, q⟩ => by
    refine ⟨p, r, s, he, hs, (pR.bind q).imp fun p1 H1 ds s1 e1 r1 q1 vs rds => ?_⟩
    split at q1
    · rename_i us hu
      exact ⟨p1, s1, ds, us, r1, rds, hu, q1 p1 H1 .refl r1⟩
    · exact q1.elim
theorem dl_callTy {x : Str} {T : String} {g : GL} {p : Pos} (hc : CallFL X (.type T) g) (hg : Gl X x) (hm : X.mg x = none) (hv : bootBuiltins x = some (.type T)) (ha : DA X W (e :: es) ma) (hn : x ≠ "__name__" := by decide) (hdb : (x == ("__debug__" : Str)) = false := by decide)
    (he : starEach (e :: es) X.env = (false, eval e X.env) :: starEach es X.env := by rfl) (hpl : (backTo pos (starEach es X.env)).any (·.1) = false := by rfl) : DLs X W (.Call (.Name x p) (e :: es) [] pos) (mCallL g ma) :=
  PE.imp (pe_callTy hc hg hm hv ha hn hdb he hpl) fun t H Q ⟨p, r, s, he, hs, q⟩ => by
    refine ⟨p, r, s, he, hs, (pR.bind q).imp fun p1 H1 ds s1 e1 r1 q1 vs rds => ?_⟩
    split at q1
    · rename_i us hu
      exact ⟨p1, s1, ds, us, r1, rds, hu, q1 p1 H1 .refl r1⟩
    · exact q1.elim
def gList : GL
  | [d], s => match d with
    | .loc n => (match s[n]? with
      | some (.lst ds) => some ds
      | some (.dct kvs) => some (kvs.map fun kv => keyV kv.1)
      | _ => none)
    | .tup ds => some ds
    | _ => none
  | _, _ => none
theorem keys_rd {K : PySem.W.Frag} {p : List Addr} {H : Hp} : ∀ {ds : List (Key × D)} {us : List (Key × V)}, RF K p H ds us → RDs K p H (ds.map fun kv => keyV kv.1) (us.map fun kv => kV kv.1)
  | _, _, .nil => .nil
  | _, _, .cons q r => .cons (by obtain ⟨q1, _⟩ := q; dsimp only; rw [q1]; exact keyV_rd _) (keys_rd r)
theorem ca_list (hc : X.calm = true) : CallFL X (.type "list") gList := CallR.imp (call_list_of.or (call_listD hc)) fun vs H Q ⟨p, s, ds, us, hs, rds, hg, hf⟩ => by
  unfold gList at hg
  split at hg
  · obtain ⟨v, rfl, rd⟩ := one_rd rds
    split at hg
    · split at hg
      · rename_i n ds hn
        cases hg
        obtain ⟨a, ws, rfl, h1, h2, h3⟩ := lst_rd hs rd hn
        exact .inl ⟨a, ws, rfl, .inl (SqL.of h1), fun l hl => hf l ws hl h2⟩
      · rename_i n kvs hn
        cases hg
        obtain ⟨a, ws, rfl, h1, h2, h3⟩ := dct_rd hs rd hn
        exact .inr ⟨a, ws, rfl, .inl h1, fun l hl => hf l _ hl (keys_rd h2)⟩
      · cases hg
    · cases hg
      cases rd with
      | tup h1 r1 => exact .inl ⟨_, _, rfl, .inr h1, fun l hl => hf l _ hl r1⟩
    · cases hg
  · cases hg
/-- sorted, of whole numbers -/
def ins1 (x : Int) : List Int → List Int
  | [] => [x]
  | y :: ys => if x ≤ y then x :: y :: ys else y :: ins1 x ys
def isort : List Int → List Int
  | [] => []
  | x :: xs => ins1 x (isort xs)
theorem ins1_perm (x : Int) : ∀ ys : List Int, (ins1 x ys).Perm (x :: ys)
  | [] => .refl _
  | y :: ys => by
    unfold ins1; split
    · exact .refl _
    · exact ((ins1_perm x ys).cons y).trans (.swap x y ys)
theorem isort_perm : ∀ xs : List Int, (isort xs).Perm xs
  | [] => .refl _
  | x :: xs => (ins1_perm x (isort xs)).trans ((isort_perm xs).cons x)
theorem ins1_sorted (x : Int) : ∀ {ys : List Int}, ys.Pairwise (· ≤ ·) → (ins1 x ys).Pairwise (· ≤ ·)
  | [], _ => by simp [ins1]
  | y :: ys, h => by
    unfold ins1; split
    · rename_i hxy
      refine List.pairwise_cons.mpr ⟨fun z hz => ?_, h⟩
      rcases List.mem_cons.mp hz with rfl | hz
      · exact hxy
      · exact Int.le_trans hxy ((List.pairwise_cons.mp h).1 z hz)
    · rename_i hxy
      refine List.pairwise_cons.mpr ⟨fun z hz => ?_, ins1_sorted x (List.pairwise_cons.mp h).2⟩
      have := (ins1_perm x ys).mem_iff.mp hz
      rcases List.mem_cons.mp this with rfl | hz
      · omega
      · exact (List.pairwise_cons.mp h).1 z hz
theorem isort_sorted : ∀ xs : List Int, (isort xs).Pairwise (· ≤ ·)
  | [] => .nil
  | x :: xs => ins1_sorted x (isort_sorted xs)
theorem sorted_same : ∀ {xs ys : List Int}, xs.Perm ys → xs.Pairwise (· ≤ ·) → ys.Pairwise (· ≤ ·) → xs = ys
  | [], ys, h, _, _ => (List.nil_perm.mp h).symm
  | x :: xs, [], h, _, _ => by have := h.length_eq; simp at this
  | x :: xs, y :: ys, h, h1, h2 => by
    have hx : x ∈ y :: ys := h.mem_iff.mp List.mem_cons_self
    have hy : y ∈ x :: xs := h.mem_iff.mpr List.mem_cons_self
    have e : x = y := by
      rcases List.mem_cons.mp hx with e | hx
      · exact e
      · rcases List.mem_cons.mp hy with e | hy
        · exact e.symm
        · exact Int.le_antisymm ((List.pairwise_cons.mp h1).1 y hy) ((List.pairwise_cons.mp h2).1 x hx)
    subst e
    rw [sorted_same ((List.perm_cons x).mp h) (List.pairwise_cons.mp h1).2 (List.pairwise_cons.mp h2).2]
def intKeys : List (Key × D) → Option (List Int)
  | [] => some []
  | (.inl i, _) :: r => (intKeys r).map (i :: ·)
  | (.inr _, _) :: _ => none
def gSorted : GL
  | [d], s => match d with
    | .loc n => (match s[n]? with
      | some (.lst ds) => (intsD ds).map fun ns => (isort ns).map .int
      | some (.dct kvs) => (intKeys kvs).bind fun ns => if ns.length < 64 then some ((isort ns).map .int) else none
      | _ => none)
    | _ => none
  | _, _ => none
theorem intKeys_rd {K : PySem.W.Frag} {p : List Addr} {H : Hp} : ∀ {ds : List (Key × D)} {us : List (Key × V)} {ns : List Int}, RF K p H ds us → intKeys ds = some ns → us.map (·.1) = ns.map Sum.inl
  | _, _, _, .nil, h => by simp only [intKeys] at h; cases h; rfl
  | (.inl i, d) :: ds, (k, v) :: us, ns, .cons q r, h => by
    simp only [intKeys, Option.map_eq_some_iff] at h
    obtain ⟨ms, hm, rfl⟩ := h
    obtain ⟨q1, _⟩ := q
    dsimp only at q1
    simp [← q1, intKeys_rd r hm]
  | (.inr x, d) :: ds, _, _, .cons q r, h => by simp [intKeys] at h
theorem ca_sorted (hc : X.calm = true) : CallFL X (.builtin "sorted") gSorted := CallR.imp (cr_sortedI.or (call_sortedDI hc)) fun vs H Q ⟨p, s, ds, us, hs, rds, hg, hf⟩ => by
  unfold gSorted at hg
  split at hg
  · obtain ⟨v, rfl, rd⟩ := one_rd rds
    split at hg
    · split at hg
      · rename_i n ds hn
        simp only [Option.map_eq_some_iff] at hg
        obtain ⟨ns, h0, rfl⟩ := hg
        cases intsD_eq h0
        obtain ⟨a, ws, rfl, h1, h2, h3⟩ := lst_rd hs rd hn
        cases h2.ints
        refine .inl ⟨a, ns, rfl, SqL.of h1, fun ns' q hp hsr hq => ?_⟩
        have : ns' = isort ns := sorted_same (hp.trans (isort_perm ns).symm) hsr (isort_sorted ns)
        subst this
        exact hf q _ hq (RDs.of_ints _)
      · rename_i n kvs hn
        simp only [Option.bind_eq_some_iff] at hg
        obtain ⟨ns, h0, hg⟩ := hg
        split at hg
        · rename_i hl
          cases hg
          obtain ⟨a, ws, rfl, h1, h2, h3⟩ := dct_rd hs rd hn
          refine .inr ⟨a, ws, ns, rfl, .inl h1, intKeys_rd h2 h0, hl, fun ns' q hp hsr hq => ?_⟩
          have : ns' = isort ns := sorted_same (hp.trans (isort_perm ns).symm) hsr (isort_sorted ns)
          subst this
          exact hf q _ hq (RDs.of_ints _)
        · cases hg
      · cases hg
    · cases hg
  · cases hg
/-- list(range(..)) -/
def mLR1 (m : ME) : MA := fun r s => (m r s).bind fun d s1 => match d with
  | .int j => if -(2 ^ 62) ≤ j ∧ j < 2 ^ 62 ∧ j.toNat ≤ 2 ^ 24 then .ok ((List.range (j - 0).toNat).map fun (i : Nat) => D.int (0 + (i : Nat))) s1 else .bad
  | _ => .bad
end

/-! ### dicts made -/
def mDictOf (m : ME) : MD := fun r s => (m r s).bind fun d s1 => match d with
  | .loc n => (match kvsOf s1 n with
    | some kvs => .ok kvs s1
    | none => .bad)
  | _ => .bad
section
variable {X : Cx} {W : WX} {e : Expr} {m : ME} {pos p : Pos}
theorem dk_dictOf (hg : Gl X "dict") (hm : X.mg "dict" = none) (ha : DE X W e m) (hv : bootBuiltins "dict" = some (.type "dict") := by decide +kernel)
    (he : starEach (e :: []) X.env = (false, eval e X.env) :: starEach [] X.env := by rfl) (hpl : (backTo pos (starEach [] X.env)).any (·.1) = false := by rfl) : DDk X W (.Call (.Name "dict" p) [e] [] pos) (mDictOf m) :=
  PE.imp (pe_callTy call_dictD hg hm hv (pa_cons ha pa_nil he) (by decide) (by decide) he hpl) fun t H Q ⟨p, r, s, he, hs, q⟩ => by
    refine tE.stepK he hs q fun p1 H1 d v s1 e1 r1 he1 rd q1 => ?_
    split at q1
    · split at q1
      · rename_i kvs hk
        obtain ⟨a, us, rfl, h1, h2⟩ := kvs_rd r1 rd hk
        exact ⟨a, us, rfl, h1, fun q hq => q1 p1 H1 .refl r1 q us hq h2⟩
      · exact q1.elim
    · exact q1.elim
theorem dk_empty : DDk X W (.Dict [] [] pos) (fun _ s => .ok [] s) := PE.imp pe_dnewK fun t H Q ⟨p, r, s, he, hs, q⟩ => fun a ha => q p H .refl hs a [] ha .nil
/-- {k: v, ..} -/
def mEnts : List (ME × ME) → Env → Sto → R (List (D × D))
  | [], _, s => .ok [] s
  | (k, v) :: l, r, s => (k r s).bind fun dk s1 => (v r s1).bind fun dv s2 => (mEnts l r s2).bind fun ps s3 => .ok ((dk, dv) :: ps) s3
def entsOf : List (D × D) → Option (List (Key × D))
  | [] => some []
  | (k, v) :: l => (keyD k).bind fun k => (entsOf l).map fun l => (k, v) :: l
def mDisp (l : List (ME × ME)) : MD := fun r s => (mEnts l r s).bind fun ps s1 => match entsOf ps with
  | some kvs => if kvs.length ≤ 15 then .ok (kvs.foldl (fun acc kv => dPut acc kv.1 kv.2) []) s1 else .bad
  | none => .bad
end

/-! ### a def by its body -/
def mDef (nN np : Nat) (mb : MS) : MF := fun ds s => if ds.length = np then (match mb (ds.map some ++ List.replicate (nN - np) none) s with
  | .nx _ s1 => .ok .non s1
  | .rt d s1 => .ok d s1
  | .exc e _ s1 => .exc e s1
  | _ => .bad) else .bad
theorem re_start {K : PySem.W.Frag} {p : List Addr} {H : Hp} {ds : List D} {vs : List V} (r : RDs K p H ds vs) (N : List Str) : RE K p H (ds.map some ++ List.replicate (N.length - ds.length) none) (L2.start N vs) := by
  refine ⟨by simp [L2.start, r.length], fun i d h => ?_⟩
  by_cases hi : i < ds.length
  · rw [List.getElem?_append_left (by simpa using hi)] at h
    simp only [List.getElem?_map, Option.map_eq_some_iff, Option.some.injEq] at h
    obtain ⟨d', h1, rfl⟩ := h
    obtain ⟨v, h2, h3⟩ := r.get h1
    refine ⟨v, ?_, h3⟩
    unfold L2.start
    rw [List.getElem?_append_left (by rw [List.length_map, ← r.length]; exact hi)]
    simp [h2]
  · rw [List.getElem?_append_right (by simpa using hi)] at h
    simp [List.getElem?_replicate] at h
theorem fn_D {P : Program} {w : World} {K : PySem.W.Frag} {mg : Str → Option Value} {base : Heap} {x qual : Str} {st : Stmt} {f : Addr} {fd : FuncData} {N ps : List Str} {k : Nat} {mb : MS} (F : Fun K x qual st f fd) (S : FnScope N ps (defScope st))
    (hb : ∀ (cdv : Value) (A : Around) (outer : List PySem.Env) (s : Shared) (H : Hp) (E : XK), Room k (A.deeper (envOfC qual (defScope st) s.heap.objs.size f cdv)) →
      DSs (cxOf (L2.CX P w) P w K mg base N qual (defScope st) f cdv A outer s H E) (fun c d _ H => E c d H) (defBody st) mb) : FnD P w K mg base (k + 1) f fd ps (mDef N.length ps.length mb) := by
  refine F.okX S (fun vs H Q E h => ?_) (fun cdv A outer s H vs Q E hr h => ⟨_, hb cdv A outer s H E hr, ?_⟩)
  · obtain ⟨p, s, ds, hl, _, r, _⟩ := h
    rw [← r.length]; exact hl
  · obtain ⟨p, s, ds, hl, hs, r, q⟩ := h
    refine ⟨p, _, s, re_start r N, hs, ?_⟩
    unfold mDef at q
    rw [if_pos hl] at q
    rw [hl]
    show pS K _ _ p H (mb (ds.map some ++ List.replicate (N.length - ps.length) none) s)
    cases hq : mb (ds.map some ++ List.replicate (N.length - ps.length) none) s with
    | nx r1 s1 => rw [hq] at q; exact fun p' H' t ex rs re => q p' H' .non ex rs .non
    | rt d s1 => rw [hq] at q; exact fun p' H' v ex rs rd => q p' H' v ex rs rd
    | exc e r1 s1 => rw [hq] at q; exact fun p' H' t d ex rs re rx => q p' H' d ex rs rx
    | bk _ _ => rw [hq] at q; exact q.elim
    | ct _ _ => rw [hq] at q; exact q.elim
    | bad => rw [hq] at q; exact q.elim

/-! ### what is new and unreachable is forgotten -/
mutual
def D.lt (n : Nat) : D → Bool
  | .loc m => decide (m < n)
  | .tup ds => D.lts n ds
  | .con _ => true
  | .non => true
  | .bl _ => true
  | .int _ => true
  | .str _ => true
def D.lts (n : Nat) : List D → Bool
  | [] => true
  | d :: ds => D.lt n d && D.lts n ds
end
def Ob.lt (n : Nat) : Ob → Bool
  | .lst ds => D.lts n ds
  | .dct kvs => kvs.all fun kv => D.lt n kv.2
  | .lok kvs => kvs.all fun kv => D.lt n kv.2
  | .ins _ fs => fs.all fun kv => D.lt n kv.2
section
variable {K : PySem.W.Frag} {p q : List Addr} {H : Hp}
mutual
theorem RD.cut : ∀ {d : D} {v : V}, RD K (p ++ q) H d v → D.lt p.length d = true → RD K p H d v
  | _, _, .non, _ => .non
  | _, _, .bl b, _ => .bl b
  | _, _, .int i, _ => .int i
  | _, _, .str x, _ => .str x
  | _, _, .con v, _ => .con v
  | .loc m, _, .loc h, e => by
    simp only [D.lt, decide_eq_true_eq] at e
    rw [List.getElem?_append_left e] at h
    exact .loc h
  | .tup ds, _, .tup h r, e => by
    simp only [D.lt] at e
    exact .tup h (RDs.cut r e)
theorem RDs.cut : ∀ {ds : List D} {vs : List V}, RDs K (p ++ q) H ds vs → D.lts p.length ds = true → RDs K p H ds vs
  | _, _, .nil, _ => .nil
  | d :: ds, _, .cons h r, e => by
    simp only [D.lts, Bool.and_eq_true] at e
    exact .cons (RD.cut h e.1) (RDs.cut r e.2)
end
mutual
theorem RD.lt : ∀ {d : D} {v : V}, RD K p H d v → D.lt p.length d = true
  | _, _, .non => rfl
  | _, _, .bl b => rfl
  | _, _, .int i => rfl
  | _, _, .str x => rfl
  | _, _, .con v => rfl
  | .loc m, _, .loc h => by
    simp only [D.lt, decide_eq_true_eq]
    exact (List.getElem?_eq_some_iff.mp h).1
  | .tup ds, _, .tup h r => by
    simp only [D.lt]
    exact RDs.lt r
theorem RDs.lt : ∀ {ds : List D} {vs : List V}, RDs K p H ds vs → D.lts p.length ds = true
  | _, _, .nil => rfl
  | d :: ds, _, .cons h r => by
    simp only [D.lts, Bool.and_eq_true]
    exact ⟨RD.lt h, RDs.lt r⟩
end
theorem RF.cut {κ : Type} {ds : List (κ × D)} {vs : List (κ × V)} (r : RF K (p ++ q) H ds vs) : (ds.all fun kv => D.lt p.length kv.2) = true → RF K p H ds vs := by
  induction r with
  | nil => intro _; exact .nil
  | cons h r ih =>
    intro e
    simp only [List.all_cons, Bool.and_eq_true] at e
    exact .cons ⟨h.1, h.2.cut e.1⟩ (ih e.2)
theorem RF.lt {κ : Type} {ds : List (κ × D)} {vs : List (κ × V)} (r : RF K p H ds vs) : (ds.all fun kv => D.lt p.length kv.2) = true := by
  induction r with
  | nil => rfl
  | cons h r ih => simp only [List.all_cons, Bool.and_eq_true]; exact ⟨h.2.lt, ih⟩
theorem RO.cut {ob : Ob} {o : HO} (r : RO K (p ++ q) H ob o) (e : Ob.lt p.length ob = true) : RO K p H ob o := by
  cases r with
  | lst r => exact .lst (r.cut e)
  | dct r => exact .dct (RF.cut r e)
  | lok r => exact .lok (RF.cut r e)
  | ins r => exact .ins (RF.cut r e)
theorem RO.lt {ob : Ob} {o : HO} (r : RO K p H ob o) : Ob.lt p.length ob = true := by
  cases r with
  | lst r => exact r.lt
  | dct r => exact RF.lt r
  | lok r => exact RF.lt r
  | ins r => exact RF.lt r
end
open Classical in
noncomputable def mForget (f : MF) : MF := fun ds s => match f ds s with
  | .ok d s' => if s.length ≤ s'.length ∧ D.lt s.length d = true ∧ ∀ i ob, i < s.length → s'[i]? = some ob → (s[i]? = some ob ∨ Ob.lt s.length ob = true) then .ok d (s'.take s.length) else .ok d s'
  | x => x
theorem fn_forget {P : Program} {w : World} {K : PySem.W.Frag} {mg : Str → Option Value} {base : Heap} {f : Addr} {fd : FuncData} {ps : List Str} {k : Nat} {m : MF} (F : FnD P w K mg base k f fd ps m) : FnD P w K mg base k f fd ps (mForget m) :=
  FnOk.imp F fun vs H Q E ⟨p, s, ds, hl, hs, r, q⟩ => by
    refine ⟨p, s, ds, hl, hs, r, ?_⟩
    unfold mForget at q
    cases hq : m ds s with
    | bad => rw [hq] at q; exact q
    | exc e s1 => rw [hq] at q; exact q
    | ok d s1 =>
      rw [hq] at q
      simp only at q
      split at q
      · rename_i hc
        obtain ⟨h0, h1, h2⟩ := hc
        intro p' H' v ex rs rd
        obtain ⟨pq, rfl⟩ := ex.pre
        refine q p H' v ⟨⟨[], by simp⟩, ex.tup, ex.fr, fun _ a b => absurd a b, ex.fz⟩ ⟨?_, hs.nd, fun n ob a e1 e2 => ?_⟩ (rd.cut (by rw [hs.len]; exact h1))
        · rw [List.length_take, hs.len, Nat.min_eq_left h0]
        · have hn : n < s.length := by rw [← hs.len]; exact (List.getElem?_eq_some_iff.mp e2).1
          have e1' : s1[n]? = some ob := by rw [List.getElem?_take] at e1; simpa [hn] using e1
          obtain ⟨o, h3, h4⟩ := rs.ob n ob a e1' (by rw [List.getElem?_append_left (by rw [hs.len]; exact hn)]; exact e2)
          refine ⟨o, h3, h4.cut ?_⟩
          rw [hs.len]
          rcases h2 n ob hn e1' with h5 | h5
          · obtain ⟨_, _, _, _, h6⟩ := hs.mut h5
            rw [← hs.len]; exact h6.lt
          · exact h5
      · exact q
end DL
end
/-! ### DL12 -/
section
set_option linter.all false
set_option maxRecDepth 100000
/-! DL12: what is known of a def, a method, a class; results renamed. -/
namespace DL
open PySem PySem.Spec L2
open PyProof.Rows hiding St

/-- a def of the module with its promise -/
def Kn (P : Program) (w : World) (K : PySem.W.Frag) (mg : Str → Option Value) (base : Heap) (x : Str) (k : Nat) (ps : List Str) (m : MF) : Prop :=
  ∃ f fd, mg x = some (.ref f) ∧ PySem.W.keepIn K (.ref f) = true ∧ Binds K fd ps [] ∧ FnD P w K mg base k f fd ps m
/-- a method -/
def Km (P : Program) (w : World) (K : PySem.W.Frag) (mg : Str → Option Value) (base : Heap) (C : Addr) (x : Str) (k : Nat) (ps : List Str) (m : MF) : Prop :=
  ∃ f fd, Meth K C x f ∧ Binds K fd ps [] ∧ FnD P w K mg base k f fd ps m
/-- a class that is made -/
def Kc (P : Program) (w : World) (K : PySem.W.Frag) (mg : Str → Option Value) (base : Heap) (x : Str) (C : Addr) (k : Nat) (ps : List Str) (m : MF) : Prop :=
  ∃ f fd, Mk K C f ∧ mg x = some (.ref C) ∧ Binds K fd ps [] ∧ FnD P w K mg base k f fd ps m
section
variable {X : Cx} {W : WX} {pos : Pos} {e o : Expr} {es : List Expr} {ma : MA} {mo : ME} {k j : Nat} {C : Addr} {ps : List Str} {m : MF} {x mn : Str} {p apos : Pos}
theorem de_fn (h : Kn X.prog X.w X.K X.mg X.base x k ps m) (hr : Room j X.A) (hj : k ≤ j) (tk : Takes X W) (hg : Gl X x) (hlen : (e :: es).length = ps.length) (ha : DA X W (e :: es) ma)
    (hma : ∀ r s ds s', ma r s = .ok ds s' → ds.length = ps.length) (hdb : (x == ("__debug__" : Str)) = false := by decide) (he : starEach (e :: es) X.env = (false, eval e X.env) :: starEach es X.env := by rfl) (hpl : (backTo pos (starEach es X.env)).any (·.1) = false := by rfl) :
    DE X W (.Call (.Name x p) (e :: es) [] pos) (mCall m ma) := by
  obtain ⟨f, fd, h1, h2, h3, h4⟩ := h
  exact de_call h4 (hr.mono hj) tk hg h1 h2 h3 hlen ha hdb hma he hpl
theorem de_fn0 (h : Kn X.prog X.w X.K X.mg X.base x k [] m) (hr : Room j X.A) (hj : k ≤ j) (tk : Takes X W) (hg : Gl X x) (hdb : (x == ("__debug__" : Str)) = false := by decide) :
    DE X W (.Call (.Name x p) [] [] pos) (mCall0 m) := by
  obtain ⟨f, fd, h1, h2, h3, h4⟩ := h
  exact de_call0 h4 (hr.mono hj) tk hg h1 h2 h3 hdb
theorem de_mt {pl : Sem Bool} (ho : DE X W o mo) (c : Cls X.K C) (h : Km X.prog X.w X.K X.mg X.base C mn k ps m) (hr : Room j X.A) (hj : k ≤ j) (tk : Takes X W) (ha : DA X W (e :: es) ma)
    (hma : ∀ r s ds s', ma r s = .ok ds s' → ds.length + 1 = ps.length) (hst : starEach (e :: es) X.env = (false, eval e X.env) :: starEach es X.env := by rfl) (hpl : (backTo pos (starEach es X.env)).any (·.1) = false := by rfl)
    (ht : eval (.Call (.Attribute o mn apos) (e :: es) [] pos) X.env = (do
      let ov ← eval o X.env
      standAt apos.atName
      let (f, first) ← holding [ov] (getMethod ov mn pl)
      callWith pos f first (backTo pos (starEach (e :: es) X.env)) (backToKw pos (keywordEach [] X.env))) := by rfl) :
    DE X W (.Call (.Attribute o mn apos) (e :: es) [] pos) (mMeth C mn m mo ma) := by
  obtain ⟨f, fd, h1, h3, h4⟩ := h
  exact de_meth ho c h1 h4 (hr.mono hj) tk h3 ha hma hst hpl ht
theorem de_mt0 {pl : Sem Bool} (ho : DE X W o mo) (c : Cls X.K C) (h : Km X.prog X.w X.K X.mg X.base C mn k ps m) (hr : Room j X.A) (hj : k ≤ j) (tk : Takes X W) (hps : ps.length = 1)
    (ht : eval (.Call (.Attribute o mn apos) [] [] pos) X.env = (do
      let ov ← eval o X.env
      standAt apos.atName
      let (f, first) ← holding [ov] (getMethod ov mn pl)
      callWith pos f first (backTo pos (starEach [] X.env)) (backToKw pos (keywordEach [] X.env))) := by rfl) :
    DE X W (.Call (.Attribute o mn apos) [] [] pos) (mMeth C mn m mo mNil) := by
  obtain ⟨f, fd, h1, h3, h4⟩ := h
  exact de_meth0 ho c h1 h4 (hr.mono hj) tk h3 hps ht
theorem de_mk (h : Kc X.prog X.w X.K X.mg X.base x C k ps m) (hr : Room j X.A) (hj : k + 1 ≤ j) (tk : Takes X W) (hg : Gl X x) (ha : DA X W (e :: es) ma)
    (hma : ∀ r s ds s', ma r s = .ok ds s' → ds.length + 1 = ps.length) (hdb : (x == ("__debug__" : Str)) = false := by decide) (he : starEach (e :: es) X.env = (false, eval e X.env) :: starEach es X.env := by rfl) (hpl : (backTo pos (starEach es X.env)).any (·.1) = false := by rfl) :
    DE X W (.Call (.Name x p) (e :: es) [] pos) (mMake C m ma) := by
  obtain ⟨f, fd, h1, h2, h3, h4⟩ := h
  exact de_make h1 h4 (hr.mono hj) tk hg h2 h3 ha hma hdb he hpl
theorem de_gi {i : Int} (hm : ∃ t, X.mg x = some (.int i t)) (hg : Gl X x) (hd : (x == ("__debug__" : Str)) = false := by decide) : DE X W (.Name x pos) (mC (.int i)) := by
  obtain ⟨t, h⟩ := hm
  exact de_gint hg h hd
end

/-! ### new objects renamed -/
def rn (n : Nat) (ren : List Nat) (x : Nat) : Nat := if x < n then x else n + ren.idxOf x
mutual
def D.rn (f : Nat → Nat) : D → D
  | .loc m => .loc (f m)
  | .tup ds => .tup (D.rns f ds)
  | .con v => .con v
  | .non => .non
  | .bl b => .bl b
  | .int i => .int i
  | .str x => .str x
def D.rns (f : Nat → Nat) : List D → List D
  | [] => []
  | d :: ds => D.rn f d :: D.rns f ds
end
mutual
/-- all places that are met satisfy a -/
def D.ok (a : Nat → Prop) : D → Prop
  | .loc m => a m
  | .tup ds => D.oks a ds
  | .con _ => True
  | .non => True
  | .bl _ => True
  | .int _ => True
  | .str _ => True
def D.oks (a : Nat → Prop) : List D → Prop
  | [] => True
  | d :: ds => D.ok a d ∧ D.oks a ds
end
def Ob.rn (f : Nat → Nat) : Ob → Ob
  | .lst ds => .lst (D.rns f ds)
  | .dct kvs => .dct (kvs.map fun kv => (kv.1, kv.2.rn f))
  | .lok kvs => .lok (kvs.map fun kv => (kv.1, kv.2.rn f))
  | .ins C fs => .ins C (fs.map fun kv => (kv.1, kv.2.rn f))
def Ob.ok (a : Nat → Prop) : Ob → Prop
  | .lst ds => D.oks a ds
  | .dct kvs => ∀ kv ∈ kvs, D.ok a kv.2
  | .lok kvs => ∀ kv ∈ kvs, D.ok a kv.2
  | .ins _ fs => ∀ kv ∈ fs, D.ok a kv.2
section
variable {K : PySem.W.Frag} {p p' : List Addr} {H : Hp} {f : Nat → Nat} {a : Nat → Prop}
mutual
theorem RD.ren (h : ∀ m, a m → ∀ b, p[m]? = some b → p'[f m]? = some b) : ∀ {d : D} {v : V}, RD K p H d v → D.ok a d → RD K p' H (d.rn f) v
  | _, _, .non, _ => by simp only [D.rn]; exact .non
  | _, _, .bl b, _ => by simp only [D.rn]; exact .bl b
  | _, _, .int b, _ => by simp only [D.rn]; exact .int b
  | _, _, .str b, _ => by simp only [D.rn]; exact .str b
  | _, _, .con b, _ => by simp only [D.rn]; exact .con b
  | .loc m, _, .loc e, q => by
    simp only [D.rn]
    simp only [D.ok] at q
    exact .loc (h m q _ e)
  | .tup ds, _, .tup e r, q => by
    simp only [D.rn]
    simp only [D.ok] at q
    exact .tup e (RDs.ren h r q)
theorem RDs.ren (h : ∀ m, a m → ∀ b, p[m]? = some b → p'[f m]? = some b) : ∀ {ds : List D} {vs : List V}, RDs K p H ds vs → D.oks a ds → RDs K p' H (D.rns f ds) vs
  | _, _, .nil, _ => by simp only [D.rns]; exact .nil
  | d :: ds, _, .cons e r, q => by
    simp only [D.oks] at q
    simp only [D.rns]
    exact .cons (RD.ren h e q.1) (RDs.ren h r q.2)
end
theorem RF.ren {κ : Type} (h : ∀ m, a m → ∀ b, p[m]? = some b → p'[f m]? = some b) {ds : List (κ × D)} {vs : List (κ × V)} (r : RF K p H ds vs) : (∀ kv ∈ ds, D.ok a kv.2) → RF K p' H (ds.map fun kv => (kv.1, kv.2.rn f)) vs := by
  induction r with
  | nil => intro _; exact .nil
  | cons e r ih =>
    intro q
    exact .cons ⟨e.1, e.2.ren h (q _ List.mem_cons_self)⟩ (ih fun kv hk => q kv (List.mem_cons_of_mem _ hk))
theorem RO.ren (h : ∀ m, a m → ∀ b, p[m]? = some b → p'[f m]? = some b) {ob : Ob} {o : HO} (r : RO K p H ob o) (q : Ob.ok a ob) : RO K p' H (ob.rn f) o := by
  cases r with
  | lst r => exact .lst (r.ren h q)
  | dct r => exact .dct (RF.ren h r q)
  | lok r => exact .lok (RF.ren h r q)
  | ins r => exact .ins (RF.ren h r q)
end
/-- which new objects stay, under which names: ren; all that is met is old or stays -/
structure Gc (n : Nat) (ren : List Nat) (d : D) (s' : Sto) (d1 : D) (s1 : Sto) : Prop where
  le : n ≤ s'.length
  nd : ren.Nodup
  new : ∀ x ∈ ren, n ≤ x ∧ x < s'.length
  okd : D.ok (fun x => x < n ∨ x ∈ ren) d
  d_ : d1 = d.rn (rn n ren)
  len : s1.length = n + ren.length
  old : ∀ i ob, i < n → s'[i]? = some ob → Ob.ok (fun x => x < n ∨ x ∈ ren) ob ∧ s1[i]? = some (ob.rn (rn n ren))
  kept : ∀ j x ob, ren[j]? = some x → s'[x]? = some ob → Ob.ok (fun x => x < n ∨ x ∈ ren) ob ∧ s1[n + j]? = some (ob.rn (rn n ren))
/-- r' says no more than r -/
def RefR (n : Nat) (r r' : R D) : Prop := match r' with
  | .bad => True
  | .exc e s1 => r = .exc e s1
  | .ok d1 s1 => ∃ d s', r = .ok d s' ∧ ((d1 = d ∧ s1 = s') ∨ ∃ ren, Gc n ren d s' d1 s1)
def Ref (m m' : MF) : Prop := ∀ ds s, RefR s.length (m ds s) (m' ds s)
theorem nodup_get {α : Type} [DecidableEq α] : ∀ {l : List α} {i j : Nat} {x : α}, l.Nodup → l[i]? = some x → l[j]? = some x → i = j
  | [], i, j, x, _, h, _ => by simp at h
  | y :: l, 0, 0, x, _, _, _ => rfl
  | y :: l, 0, j + 1, x, n, h, h' => by
    simp at h h'
    subst h
    exact absurd (List.mem_of_getElem? h') (List.nodup_cons.mp n).1
  | y :: l, i + 1, 0, x, n, h, h' => by
    simp at h h'
    subst h'
    exact absurd (List.mem_of_getElem? h) (List.nodup_cons.mp n).1
  | y :: l, i + 1, j + 1, x, n, h, h' => by
    simp at h h'
    rw [nodup_get (List.nodup_cons.mp n).2 h h']
theorem idxOf_get {l : List Nat} {x : Nat} (h : x ∈ l) : l[l.idxOf x]? = some x := by
  rw [List.getElem?_eq_some_iff]
  exact ⟨List.idxOf_lt_length_iff.mpr h, List.getElem_idxOf _⟩
theorem map_nodup {α β : Type} {f : α → β} : ∀ {l : List α}, l.Nodup → (∀ x ∈ l, ∀ y ∈ l, f x = f y → x = y) → (l.map f).Nodup
  | [], _, _ => by simp
  | x :: l, n, h => by
    simp only [List.map_cons, List.nodup_cons]
    refine ⟨fun hm => ?_, map_nodup (List.nodup_cons.mp n).2 fun a ha b hb => h a (List.mem_cons_of_mem _ ha) b (List.mem_cons_of_mem _ hb)⟩
    obtain ⟨y, hy, e⟩ := List.mem_map.mp hm
    have := h y (List.mem_cons_of_mem _ hy) x List.mem_cons_self e
    subst this
    exact (List.nodup_cons.mp n).1 hy
theorem gc_run {K : PySem.W.Frag} {p p' : List Addr} {H H' : Hp} {s s' s1 : Sto} {d d1 : D} {v : V} {ren : List Nat} {Q : VK} (g : Gc s.length ren d s' d1 s1) (hs : RS K p s H) (ex : Ex p H p' H') (rs : RS K p' s' H') (rd : RD K p' H' d v) (q : Fin K p H d1 s1 Q) : Q v H' := by
  obtain ⟨pq, rfl⟩ := ex.pre
  have hlen := hs.len
  let p2 := p ++ ren.map fun x => (p ++ pq).getD x 0
  have hold : ∀ x, x < s.length → p2[x]? = p[x]? := fun x hx => List.getElem?_append_left (by rw [hlen]; exact hx)
  have hold2 : ∀ x, x < s.length → (p ++ pq)[x]? = p[x]? := fun x hx => List.getElem?_append_left (by rw [hlen]; exact hx)
  have hnew : ∀ j x b, ren[j]? = some x → (p ++ pq)[x]? = some b → p2[s.length + j]? = some b := fun j x b hj hb => by
    show (p ++ _)[s.length + j]? = _
    rw [List.getElem?_append_right (by omega), hlen, Nat.add_sub_cancel_left, List.getElem?_map, hj]
    simp only [Option.map_some, List.getD_eq_getElem?_getD, hb, Option.getD_some]
  have hmap : ∀ m, (m < s.length ∨ m ∈ ren) → ∀ b, (p ++ pq)[m]? = some b → p2[rn s.length ren m]? = some b := fun m hm b hb => by
    unfold rn
    by_cases hl : m < s.length
    · rw [if_pos hl, hold m hl, ← hold2 m hl]; exact hb
    · rw [if_neg hl]
      exact hnew _ m b (idxOf_get (hm.resolve_left hl)) hb
  refine q p2 H' v ⟨⟨_, rfl⟩, ex.tup, ex.fr, fun a ha hn => ?_, ex.fz⟩ ⟨?_, ?_, fun n ob a e1 e2 => ?_⟩ (by rw [g.d_]; exact rd.ren hmap g.okd)
  · rcases List.mem_append.mp ha with h | h
    · exact absurd h hn
    · obtain ⟨x, hx, rfl⟩ := List.mem_map.mp h
      have hx2 : x < (p ++ pq).length := by rw [rs.len]; exact (g.new x hx).2
      refine ex.nw _ ?_ hn
      rw [List.getD_eq_getElem?_getD, List.getElem?_eq_getElem hx2]
      exact List.getElem_mem hx2
  · show (p ++ _).length = _
    rw [List.length_append, List.length_map, hlen, g.len]
  · show (p ++ _).Nodup
    have hget : ∀ x ∈ ren, ∃ b, (p ++ pq)[x]? = some b := fun x hx => ⟨_, List.getElem?_eq_getElem (by rw [rs.len]; exact (g.new x hx).2)⟩
    refine List.nodup_append.mpr ⟨hs.nd, map_nodup g.nd fun x hx y hy e => ?_, fun a ha b hb e => ?_⟩
    · obtain ⟨b, hb⟩ := hget x hx
      obtain ⟨c, hc⟩ := hget y hy
      rw [List.getD_eq_getElem?_getD, List.getD_eq_getElem?_getD, hb, hc] at e
      simp at e
      subst e
      exact nodup_get rs.nd hb hc
    · subst e
      obtain ⟨x, hx, e⟩ := List.mem_map.mp hb
      obtain ⟨c, hc⟩ := hget x hx
      rw [List.getD_eq_getElem?_getD, hc] at e
      simp at e
      subst e
      obtain ⟨i, hi⟩ := List.mem_iff_getElem?.mp ha
      have hil : i < p.length := (List.getElem?_eq_some_iff.mp hi).1
      have := nodup_get (i := i) (j := x) rs.nd (by rw [List.getElem?_append_left hil]; exact hi) hc
      have := (g.new x hx).1
      omega
  · by_cases hl : n < s.length
    · have hb : n < s'.length := Nat.lt_of_lt_of_le hl g.le
      obtain ⟨ok, e3⟩ := g.old n s'[n] hl (List.getElem?_eq_getElem hb)
      rw [e3] at e1; cases e1
      obtain ⟨o, h1, h2⟩ := rs.ob n s'[n] a (List.getElem?_eq_getElem hb) (by rw [hold2 n hl, ← hold n hl]; exact e2)
      exact ⟨o, h1, h2.ren hmap ok⟩
    · have hn1 : n < s1.length := (List.getElem?_eq_some_iff.mp e1).1
      rw [g.len] at hn1
      have hj : n - s.length < ren.length := by omega
      have hx := List.getElem?_eq_getElem hj
      have hxl := (g.new _ (List.mem_of_getElem? hx)).2
      have hob := List.getElem?_eq_getElem hxl
      obtain ⟨ok, e3⟩ := g.kept _ _ _ hx hob
      have en : s.length + (n - s.length) = n := by omega
      rw [en] at e3
      rw [e3] at e1; cases e1
      have hxp : ren[n - s.length] < (p ++ pq).length := by rw [rs.len]; exact hxl
      have e5 := hnew _ _ _ hx (List.getElem?_eq_getElem hxp)
      rw [en, e2] at e5
      obtain ⟨o, h1, h2⟩ := rs.ob _ _ a hob (by rw [List.getElem?_eq_getElem hxp]; exact e5.symm)
      exact ⟨o, h1, h2.ren hmap ok⟩
theorem fn_ref {P : Program} {w : World} {K : PySem.W.Frag} {mg : Str → Option Value} {base : Heap} {f : Addr} {fd : FuncData} {ps : List Str} {k : Nat} {m m' : MF} (F : FnD P w K mg base k f fd ps m) (h : Ref m m') : FnD P w K mg base k f fd ps m' :=
  FnOk.imp F fun vs H Q E ⟨p, s, ds, hl, hs, r, q⟩ => by
    refine ⟨p, s, ds, hl, hs, r, ?_⟩
    have hr := h ds s
    cases hq : m' ds s with
    | bad => rw [hq] at q; exact q.elim
    | exc e s1 => rw [hq] at q hr; rw [show m ds s = _ from hr]; exact q
    | ok d1 s1 =>
      rw [hq] at q hr
      obtain ⟨d, s', e, hr⟩ := hr
      rw [e]
      rcases hr with ⟨rfl, rfl⟩ | ⟨ren, g⟩
      · exact q
      · exact fun p' H' v ex rs rd => gc_run g hs ex rs rd q
theorem Kn.ref {P : Program} {w : World} {K : PySem.W.Frag} {mg : Str → Option Value} {base : Heap} {x : Str} {ps : List Str} {k : Nat} {m m' : MF} (F : Kn P w K mg base x k ps m) (h : Ref m m') : Kn P w K mg base x k ps m' := by
  obtain ⟨f, fd, h1, h2, h3, h4⟩ := F
  exact ⟨f, fd, h1, h2, h3, fn_ref h4 h⟩
theorem Km.ref {P : Program} {w : World} {K : PySem.W.Frag} {mg : Str → Option Value} {base : Heap} {C : Addr} {x : Str} {ps : List Str} {k : Nat} {m m' : MF} (F : Km P w K mg base C x k ps m) (h : Ref m m') : Km P w K mg base C x k ps m' := by
  obtain ⟨f, fd, h1, h3, h4⟩ := F
  exact ⟨f, fd, h1, h3, fn_ref h4 h⟩
theorem Kc.ref {P : Program} {w : World} {K : PySem.W.Frag} {mg : Str → Option Value} {base : Heap} {C : Addr} {x : Str} {ps : List Str} {k : Nat} {m m' : MF} (F : Kc P w K mg base x C k ps m) (h : Ref m m') : Kc P w K mg base x C k ps m' := by
  obtain ⟨f, fd, h1, h2, h3, h4⟩ := F
  exact ⟨f, fd, h1, h2, h3, fn_ref h4 h⟩
end DL
end
/-! ### DL13 -/
section
set_option linter.all false
set_option maxRecDepth 100000
/-! DL13: sorted of pairs whose first are unlike whole numbers. -/
namespace SrtK
open PySem PyProof.Rows Srt SrtO
section
variable {prog : Program} {w : World} {A : Around} {E : Value → Shared → Prop} {s : Shared}
/-- the first of a pair -/
def fst (h : Heap) : Value → Int
  | .ref a => match h.get? a with
    | some o => (match o.data with
      | .seq xs _ => (match xs[0]? with
        | some (Value.int i _) => i
        | _ => 0)
      | _ => 0)
    | none => 0
  | _ => 0
def IsP (h : Heap) (v : Value) (x : Int) : Prop := ∃ a o t y n, v = .ref a ∧ h.get? a = some o ∧ o.cls = .type "tuple" ∧ o.data = .seq #[.int x t, y] n
theorem IsP.keeps {h h' : Heap} {v : Value} {x : Int} (p : IsP h v x) (k : ∀ b o, h.get? b = some o → o.cls = .type "tuple" → h'.get? b = some o) : IsP h' v x := by
  obtain ⟨a, o, t, y, n, e, ho, hc, hd⟩ := p
  exact ⟨a, o, t, y, n, e, k _ _ ho hc, hc, hd⟩
theorem IsP.fst {h : Heap} {v : Value} {x : Int} (p : IsP h v x) : fst h v = x := by
  obtain ⟨a, o, t, y, n, rfl, ho, hc, hd⟩ := p
  simp [SrtK.fst, ho, hd]
theorem swo_key (k : Value → Int) : Swo fun v u => decide (k v < k u) := by
  refine ⟨fun x y h => ?_, fun x y z h1 h2 => ?_⟩
  · have a := of_decide_eq_true h
    exact decide_eq_false (by omega)
  · have a := of_decide_eq_false h1
    have b := of_decide_eq_false h2
    exact decide_eq_false (by omega)
theorem key_cmp {vs : List Value} {k : Value → Int} (hp : ∀ v ∈ vs, IsP s.heap v (k v)) (hk : ∀ v ∈ vs, ∀ u ∈ vs, k v = k u → v = u) : Cmp prog w A s (tuples' true) (fun p => p.1 ∈ vs) (lt2 fun v u => decide (k v < k u)) := by
  intro p q hm hm'
  have h1 := hp _ hm
  have h2 := hp _ hm'
  have h3 := hk _ hm _ hm'
  show wpAny (model prog w) A (keyLt' (tuples' true) p.1 q.1) (fun r s' => s' = s ∧ r = decide (k p.1 < k q.1)) (fun _ _ => False) s
  generalize k p.1 = x at h1 h3 ⊢
  generalize k q.1 = x' at h2 h3 ⊢
  obtain ⟨a, o, t, y, n, e, ho, hc, hd⟩ := h1
  obtain ⟨a', o', t', y', n', e', ho', hc', hd'⟩ := h2
  rw [e, e'] at h3 ⊢
  refine PySem.W.kat_lt ho hd ho' hd' ?_
  show PySem.W.KatLex prog w A true (decide (2 < 2)) _ [(.int x t, .int x' t'), (y, y')] 0 s
  refine PySem.W.kat_cons (SeqAt.EqAt.int_int x t x' t' prog w _ _ ?_)
  refine PySem.W.kat_go (fun e1 => ?_) (fun e1 => ?_)
  · have ex : x = x' := by simpa using e1
    have ea := h3 ex
    cases ea
    rw [ho] at ho'
    cases ho'
    rw [hd] at hd'
    cases hd'
    refine PySem.W.kat_yes (PySem.W.kat_cons (SeqAt.EqAt.same y prog w _ _ ?_))
    exact PySem.W.kat_yes (PySem.W.kat_nil ⟨rfl, by simp [ex]⟩)
  · exact PySem.W.kat_no (oneLt_int ⟨rfl, rfl⟩)
theorem firsts_of {h : Heap} : ∀ {vs : List Value}, (∀ v ∈ vs, ∃ x, IsP h v x) → ∃ fs : List Value, PySem.W.KatTups h vs fs ∧ fs.length = vs.length ∧ ∀ f ∈ fs, ∃ x t, f = Value.int x t
  | [], _ => ⟨[], PySem.W.KatTups.nil, rfl, fun _ hm => by simp at hm⟩
  | v :: vs, hp => by
    obtain ⟨fs, h1, h2, h3⟩ := firsts_of (vs := vs) fun v' hm => hp v' (List.mem_cons_of_mem _ hm)
    obtain ⟨x, a, o, t, y, n, e, ho, hc, hd⟩ := hp v (List.mem_cons_self ..)
    subst e
    refine ⟨.int x t :: fs, PySem.W.KatTups.cons ho hc hd rfl h1, by rw [List.length_cons, List.length_cons, h2], fun f hm => ?_⟩
    rcases List.mem_cons.mp hm with rfl | hm
    · exact ⟨_, _, rfl⟩
    · exact h3 f hm
theorem keys_sortable {a : Addr} {vs : List Value} {k : Value → Int} (h0 : 0 < vs.length) (hp : ∀ v ∈ vs, IsP s.heap v (k v)) (hk : ∀ v ∈ vs, ∀ u ∈ vs, k v = k u → v = u) (ha : ∀ o, s.heap.get? a = some o → o.cls ≠ .type "tuple") : SortableO prog w A s a vs fun v u => decide (k v < k u) := by
  intro h' keep
  have hp' : ∀ v ∈ vs, IsP h' v (k v) := fun v hm => (hp v hm).keeps fun b o e c => keep b o (fun z => by subst z; exact ha o e c) e
  obtain ⟨fs, h1, h2, h3⟩ := firsts_of fun v hm => ⟨_, hp' v hm⟩
  refine ⟨tuples' true, fun Q E hq => ?_, key_cmp hp' hk⟩
  refine PySem.W.kat_kind (T := .type "int") h1 (by omega) (fun f hm => ?_) (by rfl) ?_
  · obtain ⟨x, t, rfl⟩ := h3 f hm
    exact PySem.W.Looks.now
  · have e : (Value.type "int" != Value.type "tuple") = true := by first | decide +kernel | rfl | decide
    rw [e]
    exact hq
theorem sorted_keys {l : Addr} {vs : List Value} {k : Value → Int} {Q : Value → Shared → Prop} (hl : s.heap.IsList l vs.toArray) (hz : vs.length ≤ sizeLine) (hp : ∀ v ∈ vs, IsP s.heap v (k v)) (hk : ∀ v ∈ vs, ∀ u ∈ vs, k v = k u → v = u)
    (h : ∀ (h' : Heap) (d : Addr) (out : List Value), Srtd (fun v u => decide (k v < k u)) out → out.Perm vs → (∀ b o, s.heap.get? b = some o → h'.get? b = some o) → s.heap.objs.size ≤ d → (∃ n, h'.get? d = some (seqObj "list" out.toArray n)) → Q (.ref d) { s with heap := h' }) :
    wpAny (model prog w) A (call (.builtin "sorted") [.ref l]) Q E s := by
  refine sorted_ord (swo_key k) hl hz (fun h2 h₁ a ha kk => ?_) fun out hs hb => ?_
  · refine keys_sortable (s := { s with heap := h₁ }) (by omega) (fun v hm => (hp v hm).keeps fun b o e _ => (kk b o e).2) hk fun o e => ?_
    have e' : some o = some (seqObj "list" vs.toArray 0) := e.symm.trans ha
    cases e'
    intro c
    exact absurd (Value.type.inj c) (by decide)
  · exact h _ _ out hs hb.perm (fun b o e => sortedAll_old e) (Nat.le_succ _) (sortedAll_at s.heap vs out.toArray)
end
end SrtK
namespace DL
open PySem PySem.Spec L2
open PyProof.Rows hiding St
/-! ### by a key -/
section
variable {α : Type}
def insK (k : α → Int) (x : α) : List α → List α
  | [] => [x]
  | y :: ys => if k x ≤ k y then x :: y :: ys else y :: insK k x ys
def sortK (k : α → Int) : List α → List α
  | [] => []
  | x :: xs => insK k x (sortK k xs)
theorem insK_perm (k : α → Int) (x : α) : ∀ ys : List α, (insK k x ys).Perm (x :: ys)
  | [] => .refl _
  | y :: ys => by
    unfold insK
    split
    · exact .refl _
    · exact ((insK_perm k x ys).cons y).trans (.swap x y ys)
theorem sortK_perm (k : α → Int) : ∀ xs : List α, (sortK k xs).Perm xs
  | [] => .refl _
  | x :: xs => (insK_perm k x _).trans ((sortK_perm k xs).cons x)
theorem insK_sorted (k : α → Int) (x : α) : ∀ {ys : List α}, ys.Pairwise (fun a b => k a ≤ k b) → (insK k x ys).Pairwise (fun a b => k a ≤ k b)
  | [], _ => by simp [insK]
  | y :: ys, h => by
    unfold insK
    have h1 := List.pairwise_cons.mp h
    split
    · rename_i hc
      refine List.pairwise_cons.mpr ⟨fun z hz => ?_, h⟩
      rcases List.mem_cons.mp hz with rfl | hz
      · exact hc
      · exact Int.le_trans hc (h1.1 z hz)
    · rename_i hc
      refine List.pairwise_cons.mpr ⟨fun z hz => ?_, insK_sorted k x h1.2⟩
      rcases List.mem_cons.mp ((insK_perm k x ys).mem_iff.mp hz) with rfl | hz
      · omega
      · exact h1.1 z hz
theorem sortK_sorted (k : α → Int) : ∀ xs : List α, (sortK k xs).Pairwise (fun a b => k a ≤ k b)
  | [] => .nil
  | x :: xs => insK_sorted k x (sortK_sorted k xs)
theorem sortK_keys (k : α → Int) (xs : List α) : (sortK k xs).map k = isort (xs.map k) :=
  sorted_same (((sortK_perm k xs).map k).trans (isort_perm _).symm) (List.pairwise_map.mpr (sortK_sorted k xs)) (isort_sorted _)
theorem map_inj_on {β : Type} {k : α → β} : ∀ {xs ys : List α} {us : List α}, (∀ v ∈ us, ∀ u ∈ us, k v = k u → v = u) → (∀ x ∈ xs, x ∈ us) → (∀ y ∈ ys, y ∈ us) → xs.map k = ys.map k → xs = ys
  | [], [], _, _, _, _, _ => rfl
  | [], y :: ys, _, _, _, _, e => by simp at e
  | x :: xs, [], _, _, _, _, e => by simp at e
  | x :: xs, y :: ys, us, h, hx, hy, e => by
    simp only [List.map_cons, List.cons.injEq] at e
    rw [h x (hx x List.mem_cons_self) y (hy y List.mem_cons_self) e.1, map_inj_on h (fun z hz => hx z (List.mem_cons_of_mem _ hz)) (fun z hz => hy z (List.mem_cons_of_mem _ hz)) e.2]
/-- there is just one such list -/
theorem sortK_uniq {k : α → Int} {xs us : List α} (hk : ∀ v ∈ us, ∀ u ∈ us, k v = k u → v = u) (hp : xs.Perm us) (hs : xs.Pairwise (fun a b => k a ≤ k b)) : xs = sortK k us := by
  refine map_inj_on hk (fun x hx => hp.mem_iff.mp hx) (fun y hy => (sortK_perm k us).mem_iff.mp hy) ?_
  exact sorted_same ((hp.trans (sortK_perm k us).symm).map k) (List.pairwise_map.mpr hs) (List.pairwise_map.mpr (sortK_sorted k us))
end
/-- the first of a pair -/
def fstD : D → Option Int
  | .tup [.int i, _] => some i
  | _ => none
def fsts : List D → Option (List Int)
  | [] => some []
  | d :: ds => (fstD d).bind fun i => (fsts ds).map (i :: ·)
def keyP (d : D) : Int := (fstD d).getD 0
def gSortedP : GL
  | [.loc n], s => match s[n]? with
    | some (.lst ds) => (fsts ds).bind fun is => if is.Nodup then some (sortK keyP ds) else none
    | _ => none
  | _, _ => none
section
variable {K : PySem.W.Frag} {p : List Addr} {H : Hp}
theorem insK_rd {k : D → Int} {kv : V → Int} {d : D} {v : V} (rd : RD K p H d v ∧ k d = kv v) : ∀ {ds : List D} {us : List V}, Paired (fun d v => RD K p H d v ∧ k d = kv v) ds us → Paired (fun d v => RD K p H d v ∧ k d = kv v) (insK k d ds) (insK kv v us)
  | _, _, .nil => .cons rd .nil
  | d1 :: ds, v1 :: us, .cons h r => by
    unfold insK
    rw [rd.2, h.2]
    split
    · exact .cons rd (.cons h r)
    · exact .cons h (insK_rd rd r)
theorem sortK_rd {k : D → Int} {kv : V → Int} : ∀ {ds : List D} {us : List V}, Paired (fun d v => RD K p H d v ∧ k d = kv v) ds us → Paired (fun d v => RD K p H d v ∧ k d = kv v) (sortK k ds) (sortK kv us)
  | _, _, .nil => .nil
  | _, _, .cons h r => insK_rd h (sortK_rd r)
theorem rds_of {k : D → Int} {kv : V → Int} : ∀ {ds : List D} {us : List V}, Paired (fun d v => RD K p H d v ∧ k d = kv v) ds us → RDs K p H ds us
  | _, _, .nil => .nil
  | _, _, .cons h r => .cons h.1 (rds_of r)
theorem keys_of {k : D → Int} {kv : V → Int} : ∀ {ds : List D} {us : List V}, Paired (fun d v => RD K p H d v ∧ k d = kv v) ds us → us.map kv = ds.map k
  | _, _, .nil => rfl
  | _, _, .cons h r => by simp [h.2, keys_of r]
theorem fsts_map : ∀ {ds : List D} {is : List Int}, fsts ds = some is → ds.map keyP = is ∧ ∀ d ∈ ds, ∃ i y, d = .tup [.int i, y]
  | [], is, e => by simp only [fsts] at e; cases e; simp
  | d :: ds, is, e => by
    simp only [fsts, Option.bind_eq_some_iff, Option.map_eq_some_iff] at e
    obtain ⟨i, h1, is', h2, rfl⟩ := e
    obtain ⟨q1, q2⟩ := fsts_map h2
    refine ⟨by simp [keyP, h1, q1], fun d' hd => ?_⟩
    rcases List.mem_cons.mp hd with rfl | hd
    · unfold fstD at h1
      split at h1
      · exact ⟨_, _, rfl⟩
      · cases h1
    · exact q2 d' hd
theorem nodup_inj {α β : Type} {f : α → β} : ∀ {l : List α}, (l.map f).Nodup → ∀ x ∈ l, ∀ y ∈ l, f x = f y → x = y
  | [], _, x, hx, _, _, _ => by cases hx
  | z :: l, n, x, hx, y, hy, e => by
    simp only [List.map_cons, List.nodup_cons] at n
    rcases List.mem_cons.mp hx with hx1 | hx1
    · rcases List.mem_cons.mp hy with hy1 | hy1
      · rw [hx1, hy1]
      · exact absurd (List.mem_map.mpr ⟨y, hy1, by rw [← e, hx1]⟩) n.1
    · rcases List.mem_cons.mp hy with hy1 | hy1
      · exact absurd (List.mem_map.mpr ⟨x, hx1, by rw [e, hy1]⟩) n.1
      · exact nodup_inj n.2 x hx1 y hy1 e
end
/-- the first of what stands at a pair's place -/
def fstV (h : Heap) : V → Int
  | .ref a => SrtK.fst h (.ref a)
  | _ => 0
theorem ca_sortedP {X : Cx} : CallFL X (.builtin "sorted") gSortedP := by
  intro pins s σ H vs us Q I r h
  obtain ⟨p, st, ds, ws, hs, rds, hg, q⟩ := h
  unfold gSortedP at hg
  split at hg
  · rename_i n
    split at hg
    · rename_i xs e1
      simp only [Option.bind_eq_some_iff] at hg
      obtain ⟨is, hf, hg⟩ := hg
      split at hg
      · rename_i hnd
        cases hg
        obtain ⟨v, rfl, rd⟩ := one_rd rds
        obtain ⟨a, zs, rfl, ha, rz, _⟩ := lst_rd hs rd e1
        obtain ⟨hm, hall⟩ := fsts_map hf
        obtain ⟨its, rv, hl, hz⟩ := I.list (SqL.of ha)
        obtain ⟨u, rfl, ru⟩ := vals1 r
        obtain rfl : u = Value.ref a := ru
        have each : ∀ d ∈ xs, ∀ v, RD X.K p H d v → ∃ t, v = .ref t ∧ SrtK.IsP s.heap (.ref t) (keyP d) := fun d hd v rv => by
          obtain ⟨i, y, rfl⟩ := hall d hd
          cases rv with
          | tup ht rt =>
            obtain ⟨v1, v2, rfl, r1, _⟩ := two_rd rt
            cases r1
            obtain ⟨its, r3, ⟨o, ho, hc, n, hd⟩, _⟩ := I.tuple ht
            obtain ⟨u1, u2, rfl, ri, rj⟩ := vals2 r3
            obtain ⟨t1, rfl⟩ := ri
            exact ⟨_, rfl, _, o, t1, u2, n, rfl, ho, hc, hd⟩
        have hpair : ∀ {ds : List D} {ws : List V}, (∀ d ∈ ds, d ∈ xs) → RDs X.K p H ds ws → Paired (fun d v => RD X.K p H d v ∧ keyP d = fstV s.heap v) ds ws := by
          intro ds ws hmem r
          induction ds generalizing ws with
          | nil => cases r; exact .nil
          | cons d ds ih =>
            cases r with
            | cons h r =>
              obtain ⟨t, rfl, hp⟩ := each d (hmem d List.mem_cons_self) _ h
              exact .cons ⟨h, hp.fst.symm⟩ (ih (fun d hd => hmem d (List.mem_cons_of_mem _ hd)) r)
        have hP := hpair (fun d hd => hd) rz
        have hzk := keys_of hP
        rw [hm] at hzk
        have href : ∀ x ∈ zs, ∃ t, x = V.ref t := fun x hx => by
          obtain ⟨i, hi⟩ := List.mem_iff_getElem?.mp hx
          have hlen := rz.length
          have hi2 : i < xs.length := by rw [hlen]; exact (List.getElem?_eq_some_iff.mp hi).1
          obtain ⟨v, hv, rv⟩ := rz.get (List.getElem?_eq_getElem hi2)
          rw [hi] at hv; cases hv
          obtain ⟨t, e, _⟩ := each _ (List.getElem_mem hi2) _ rv
          exact ⟨t, e⟩
        obtain ⟨e1, e2⟩ := refs_back rv href
        have hinj : ∀ v ∈ zs, ∀ u ∈ zs, fstV s.heap v = fstV s.heap u → v = u := nodup_inj (by rw [hzk]; exact hnd)
        refine SrtK.sorted_keys (k := SrtK.fst s.heap) hl.isList (by rw [← rv.length]; exact hz) (fun v hv => ?_) (fun v hv u hu ek => ?_) fun h' d out h1 h2 kp hd hn => ?_
        · obtain ⟨t, rfl⟩ := e2 v hv
          have hmz : V.ref t ∈ zs := by rw [e1]; exact List.mem_map.mpr ⟨_, hv, rfl⟩
          obtain ⟨i, hi⟩ := List.mem_iff_getElem?.mp hmz
          have hi2 : i < xs.length := by rw [rz.length]; exact (List.getElem?_eq_some_iff.mp hi).1
          obtain ⟨w', hv', rv'⟩ := rz.get (List.getElem?_eq_getElem hi2)
          rw [hi] at hv'; cases hv'
          obtain ⟨t', e, hp⟩ := each _ (List.getElem_mem hi2) _ rv'
          cases e
          have := hp.fst
          rw [this]
          exact hp
        · obtain ⟨t, rfl⟩ := e2 v hv
          obtain ⟨t', rfl⟩ := e2 u hu
          have m1 : V.ref t ∈ zs := by rw [e1]; exact List.mem_map.mpr ⟨_, hv, rfl⟩
          have m2 : V.ref t' ∈ zs := by rw [e1]; exact List.mem_map.mpr ⟨_, hu, rfl⟩
          have := hinj _ m1 _ m2 ek
          cases this
          rfl
        · have h3 : ∀ u ∈ out, ∃ a, u = Value.ref a := fun u hu => e2 u (h2.mem_iff.mp hu)
          obtain ⟨n, hn⟩ := hn
          have hb : (out.map backV).Perm zs := by rw [e1]; exact h2.map _
          have hsr : (out.map backV).Pairwise (fun a b => fstV s.heap a ≤ fstV s.heap b) := by
            refine List.pairwise_map.mpr (h1.imp_of_mem fun {x y} hx hy hlt => ?_)
            obtain ⟨t, rfl⟩ := h3 x hx
            obtain ⟨t', rfl⟩ := h3 y hy
            exact Int.not_lt.mp (of_decide_eq_false hlt)
          have hu := sortK_uniq hinj hb hsr
          refine ⟨.ref d, upd H d (.lst (out.map backV)), I.laid (t' := s.toks) kp hd ⟨by rw [hb.length_eq]; exact hz, out, n, vals_back h3, hn⟩, rfl, q _ _ (I.hok.fresh hd) ?_⟩
          rw [hu]
          exact rds_of (sortK_rd hP)
      · cases hg
    · cases hg
  · cases hg
end DL
namespace DL
open PySem PySem.Spec L2
open PyProof.Rows hiding St
def gSrt : GL := fun ds s => match gSorted ds s with
  | some x => some x
  | none => gSortedP ds s
theorem ca_srt {X : Cx} (hc : X.calm = true) : CallFL X (.builtin "sorted") gSrt := CallR.imp ((ca_sorted hc).or ca_sortedP) fun vs H Q ⟨p, s, ds, us, hs, rds, hg, q⟩ => by
  unfold gSrt at hg
  split at hg
  · rename_i x hx
    cases hg
    exact .inl ⟨p, s, ds, _, hs, rds, hx, q⟩
  · exact .inr ⟨p, s, ds, us, hs, rds, hg, q⟩
end DL
end
/-! ### DL14 -/
section
set_option linter.all false
set_option maxRecDepth 100000
/-! DL14: dict displays; in; three stores. -/
namespace DL
open PySem PySem.Spec L2
open PyProof.Rows hiding St
abbrev trsOf (K : PySem.W.Frag) (W : WX) (l : List (ME × ME)) : List (TE × TE) := l.map fun kv => (tE K W kv.1, tE K W kv.2)
abbrev DPs (X : Cx) (W : WX) (pos : Pos) (keys : List (Option Expr)) (values : List Expr) (l : List (ME × ME)) : Prop := PPs X pos keys values (trsOf X.K W l)
abbrev RPs (K : PySem.W.Frag) (p : List Addr) (H : Hp) : List (D × D) → List (V × V) → Prop := Paired fun a b => RD K p H a.1 b.1 ∧ RD K p H a.2 b.2
theorem upd_del2 {H : Hp} {a : Addr} {o : HO} : upd (del H a) a o = upd H a o := by
  funext b
  by_cases h : b = a
  · rw [h, upd_same, upd_same]
  · rw [upd_ne h, upd_ne h, del_ne h]
theorem pR.bindAt {α β : Type} {K : PySem.W.Frag} {W : WX} {p p1 : List Addr} {H H1 : Hp} {t : L2.St} {r : R α} {f : α → Sto → R β} {k : List Addr → Hp → β → Sto → Prop} (e : Ex p H p1 H1) (h : pR K W t p H (r.bind f) k) :
    pR K W t p1 H1 r (fun _ _ a s => pR K W t p H (f a s) k) := by
  cases r with
  | ok a s => exact fun _ _ _ _ => h
  | exc x s => exact pR.mono (r := (R.exc x s : R β)) (k := k) e h
  | bad => exact h
section
variable {X : Cx} {W : WX} {pos : Pos}
theorem dps_nil : DPs X W pos [] [] [] := pps_nil
theorem dps_cons {k v : Expr} {ks : List (Option Expr)} {vs : List Expr} {mk mv : ME} {l : List (ME × ME)} (hk : DE X W k mk) (hv : DE X W v mv) (hr : DPs X W pos ks vs l) : DPs X W pos (some k :: ks) (v :: vs) ((mk, mv) :: l) := pps_cons hk hv hr
theorem ents_read {K : PySem.W.Frag} : ∀ {l : List (ME × ME)} {t : L2.St} {H : Hp} {p : List Addr} {r : Env} {s : Sto} {k : List Addr → Hp → List (D × D) → Sto → Prop} {Q : List (V × V) → Hp → Prop},
    RE K p H r t → RS K p s H → pR K W t p H (mEnts l r s) k → (∀ p' H' ps s' vs, Ex p H p' H' → RS K p' s' H' → k p' H' ps s' → RPs K p' H' ps vs → Q vs H') → tPairs (trsOf K W l) t H Q
  | [], t, H, p, r, s, k, Q, he, hs, h, f => by
    simp only [mEnts] at h
    exact f p H [] s [] .refl hs (h p H .refl hs) .nil
  | (mk, mv) :: l, t, H, p, r, s, k, Q, he, hs, h, f => by
    simp only [mEnts] at h
    show tE K W mk t H _
    refine tE.stepK he hs h fun p1 H1 d v s1 e1 r1 he1 rd q1 => ?_
    show tE K W mv t H1 _
    refine tE.stepK he1 r1 q1 fun p2 H2 d2 v2 s2 e2 r2 he2 rd2 q2 => ?_
    refine ents_read he2 r2 (pR.bind q2) fun p3 H3 ps s3 vs e3 r3 q3 rp => ?_
    exact f p3 H3 _ s3 _ ((e1.trans e2).trans e3) r3 (q3 p3 H3 .refl r3) (.cons ⟨(rd.mono e2).mono e3, rd2.mono e3⟩ rp)
theorem ents_kvs {K : PySem.W.Frag} {p : List Addr} {H : Hp} : ∀ {ps : List (D × D)} {vs : List (V × V)} {kvs : List (Key × D)}, RPs K p H ps vs → entsOf ps = some kvs →
    ∃ ws : List (Key × V), vs = ws.map (fun kv => (kV kv.1, kv.2)) ∧ RF K p H kvs ws
  | [], _, kvs, .nil, e => by simp only [entsOf] at e; cases e; exact ⟨[], rfl, .nil⟩
  | (k, v) :: ps, (q1, q2) :: qs, kvs, .cons h r, e => by
    simp only [entsOf, Option.bind_eq_some_iff, Option.map_eq_some_iff] at e
    obtain ⟨k', hk, kvs', hl, rfl⟩ := e
    obtain ⟨ws, rfl, rw'⟩ := ents_kvs r hl
    have := keyD_rd h.1 hk
    dsimp only at this
    subst this
    exact ⟨(k', q2) :: ws, rfl, .cons ⟨rfl, h.2⟩ rw'⟩
theorem merge_rd {K : PySem.W.Frag} {p : List Addr} {H : Hp} : ∀ {kvs : List (Key × D)} {ws : List (Key × V)} {acc : List (Key × D)} {bcc : List (Key × V)}, RF K p H kvs ws → RF K p H acc bcc →
    RF K p H (kvs.foldl (fun acc kv => dPut acc kv.1 kv.2) acc) (ws.foldl (fun acc kv => putK acc kv.1 kv.2) bcc)
  | _, _, _, _, .nil, ra => ra
  | (k1, d1) :: kvs, (k2, d2) :: ws, _, _, .cons h r, ra => by
    obtain ⟨h1, h2⟩ := h
    dsimp only at h1 h2
    subst h1
    simp only [List.foldl_cons]
    exact merge_rd r (dPut_rd h2 ra)
theorem dk_disp {keys : List (Option Expr)} {values : List Expr} {l : List (ME × ME)} (h : DPs X W pos keys values l) (h0 : keys ≠ [] := by intro e; cases e) (hall : keys.all (·.isSome) = true := by rfl) (hl : keys.length = values.length := by rfl)
    (h15 : keys.length ≤ 15 := by decide) : DDk X W (.Dict keys values pos) (mDisp l) := PE.imp (pe_disp h hall hl h0 h15) fun t H Q ⟨p, r, s, he, hs, q⟩ => by
  intro a ha
  have ex0 : Ex p H p (upd H a (.dK [])) := ex_new0 ha
  have hpa : a ∉ p := hs.fresh ha
  refine ents_read (he.mono ex0) (hs.beside ha) (pR.bindAt ex0 q) fun p1 H1 ps s1 vs e1 r1 q1 rp => ?_
  have hH : H1 a = some (.dK []) := e1.fr a _ upd_same hpa
  refine ⟨hH, ?_⟩
  split at q1
  · rename_i kvs hk
    split at q1
    · rename_i hlen
      obtain ⟨ws, rfl, rf⟩ := ents_kvs rp hk
      refine ⟨ws, rfl, by rw [← rf.length]; exact hlen, ?_⟩
      have hap1 : a ∉ p1 := fun hm => by
        have := e1.nw a hm hpa
        rw [upd_same] at this
        cases this
      have hm := merge_rd rf (.nil : RF X.K p1 H1 [] [])
      have := q1 p1 (del H1 a) ((ex0.trans e1).del ha hH trivial) (r1.del hH trivial hap1) a (mergeK [] ws) del_same (hm.mono0 (ex0_del hH trivial))
      rw [upd_del2] at this
      exact this
    · exact q1.elim
  · exact q1.elim
end
end DL
end
/-! ### DL15 -/
section
set_option linter.all false
set_option maxRecDepth 100000
/-! DL15: x[::-1]; two places of lists changed at once; small facts. -/
namespace Rvs
open PySem PySem.Spec L2
open PyProof.Rows hiding St
open HT
section
variable {prog : Program} {w : World} {A : Around} {E : Value → Shared → Prop} {s : Shared}
theorem adj_rev (n : Nat) : Builtin.Slice.sliceAdjust none none (-1) (n : Int) = ((n : Int) - 1, -1) := by
  unfold Builtin.Slice.sliceAdjust
  have h1 : ((-1 : Int) < 0) := by omega
  simp only [h1, if_true]
theorem places_rev (n : Nat) : Builtin.Slice.slicePlaces ((n : Int) - 1) (-1) (-1) = n := by
  unfold Builtin.Slice.slicePlaces
  have h1 : ¬ ((-1 : Int) > 0) := by omega
  simp only [h1, if_false]
  split
  · rename_i h
    have : (-(-1 : Int)) = 1 := by omega
    rw [this, Int.ediv_one]
    omega
  · omega
theorem part_neg {tk : Tok} {Q : Option Int → Shared → Prop} (h : Q (some (-1)) s) : wpAny (model prog w) A (Builtin.Slice.slicePartIndex (.int (-1) tk)) Q E s := slicePart_ (.int (-1) tk) h
theorem applied_rev {sl : Addr} {tk : Tok} {n : Nat} {Q : Int × Int × Nat → Shared → Prop} (hs : s.heap.IsSliceOf sl .none .none (.int (-1) tk)) (h : Q ((n : Int) - 1, -1, n) s) :
    wpAny (model prog w) A (Builtin.Slice.sliceApplied (.ref sl) (pure (n : Int))) Q E s := by
  obtain ⟨os, hos, hcs, hds⟩ := id hs
  unfold Builtin.Slice.sliceApplied Builtin.Slice.sliceFields
  refine wpAny_bind (wpAny_bind (wpAny_field hos hds (x := .none) rfl (wpAny_bind (wpAny_field hos hds (x := .none) rfl (wpAny_bind (wpAny_field hos hds (x := .int (-1) tk) rfl (wpAny_pure ?_)))))))
  refine wpAny_bind (part_neg ?_)
  show wpAny _ _ (if ((-1 : Int) == 0) = true then _ else _) _ _ s
  rw [if_neg (by decide)]
  refine wpAny_bind (slicePart_ .none (wpAny_bind (slicePart_ .none (wpAny_bind (wpAny_pure ?_)))))
  show wpAny _ _ (match Builtin.Slice.sliceAdjust none none (-1) (n : Int) with | (lo, hi) => pure (lo, (-1 : Int), Builtin.Slice.slicePlaces lo hi (-1))) _ _ s
  rw [adj_rev n]
  show wpAny _ _ (pure ((n : Int) - 1, (-1 : Int), Builtin.Slice.slicePlaces ((n : Int) - 1) (-1) (-1))) _ _ s
  rw [places_rev]
  exact wpAny_pure h
theorem range_rev {α : Type} (xs : List α) : (List.range xs.length).filterMap (fun m => xs[xs.length - 1 - m]?) = xs.reverse := by
  have key : ∀ k, k ≤ xs.length → (List.range k).filterMap (fun m => xs[xs.length - 1 - m]?) = xs.reverse.take k := by
    intro k
    induction k with
    | zero => intro _; simp
    | succ k ih =>
      intro hk
      rw [List.range_succ, List.filterMap_append, ih (by omega)]
      have hl : xs.length - 1 - k < xs.length := by omega
      have hr : k < xs.reverse.length := by simp; omega
      simp only [List.filterMap_cons, List.filterMap_nil]
      rw [List.getElem?_eq_getElem hl]
      simp only
      rw [List.take_succ_eq_append_getElem hr]
      congr 1
      simp
  have := key xs.length (Nat.le_refl _)
  rw [this]
  exact List.take_of_length_le (by simp)
theorem pick_rev (xs : Array Value) : ((List.range xs.size).filterMap fun (m : Nat) => xs[((xs.size : Int) - 1 + (m : Int) * (-1)).toNat]?).toArray = xs.toList.reverse.toArray := by
  congr 1
  rw [← range_rev xs.toList]
  have e : xs.toList.length = xs.size := by simp
  rw [e]
  have key : ∀ l : List Nat, (∀ m ∈ l, m < xs.size) → l.filterMap (fun (m : Nat) => xs[((xs.size : Int) - 1 + (m : Int) * (-1)).toNat]?) = l.filterMap (fun m => xs.toList[xs.size - 1 - m]?) := by
    intro l
    induction l with
    | nil => intro _; rfl
    | cons m l ih =>
      intro h
      have hm' := h m List.mem_cons_self
      have : ((xs.size : Int) - 1 + (m : Int) * (-1)).toNat = xs.size - 1 - m := by omega
      simp only [List.filterMap_cons, this, ih fun x hx => h x (List.mem_cons_of_mem _ hx), Array.getElem?_toList]
  exact key _ fun m hm => by simpa using hm
theorem getItem_tuple_rev {t sl : Addr} {items : Array Value} {tk : Tok} {Q : Value → Shared → Prop} (ht : IsTup s.heap t items) (hs : s.heap.IsSliceOf sl .none .none (.int (-1) tk))
    (h : Q (.ref s.heap.objs.size) { s with heap := s.heap.push { cls := .type "tuple", data := .seq items.toList.reverse.toArray } })
    (hsz : items.size ≤ sizeLine) : wpAny (model prog w) A (getItem (.ref t) (.ref sl)) Q E s := by
  have htake : sizeOk (.seq items.toList.reverse.toArray) := by
    show items.toList.reverse.toArray.size ≤ sizeLine
    rw [List.size_toArray, List.length_reverse, Array.length_toList]
    exact hsz
  obtain ⟨os, hos, hcs, hds⟩ := id hs
  have hTs : s.TypeIs (.ref sl) "slice" := ⟨os, hos, hcs⟩
  unfold getItem
  try with_reducible refine wpAny_holding ?_
  first | refine wpAny_bind (wpAny_pure ?_) | skip
  refine wpAny_bind (wpAny_sequenceKey ht.typeIs (by decide) ?_)
  refine wpAny_bind (wpAny_callSpecial?_slot (name := Str.ofString "__getitem__") ht.typeIs PyProof.Rows.slot_tuple_getitem
    (wpAny_call_entry PyProof.Rows.slot_tuple_getitem ht.typeIs entry_tuple_getitem ?_ (args_tuple_getitem _ _)))
  show wpAny _ _ (Builtin.Tuple.tupleItemsOf (.ref t) >>= _) _ _ s
  refine wpAny_bind (tupleItemsOf_ ht ?_)
  refine wpAny_bind (wpAny_typeOf hTs ?_)
  rw [if_pos (by decide)]
  refine wpAny_bind (applied_rev hs ?_)
  have hno : ¬ ((((items.size : Int) - 1) == 0 && (-1 : Int) == 1 && items.size == items.size) = true) := by
    intro q
    rw [Bool.and_eq_true, Bool.and_eq_true] at q
    exact absurd q.1.2 (by decide)
  show wpAny _ _ (if (((items.size : Int) - 1) == 0 && (-1 : Int) == 1 && items.size == items.size) = true then _ else _) _ _ s
  rw [if_neg hno, pick_rev]
  first
    | exact wpAny_bind (m := Builtin.Tuple.tupleExact _) (wpAny_newObj_type (wpAny_pure ⟨_, rfl, wpAny_pure h⟩) htake)
    | exact wpAny_bind (m := Builtin.Tuple.tupleExact _) (wpAny_newObj_type (wpAny_bind (wpAny_pure (wpAny_pure ⟨_, rfl, wpAny_pure h⟩))) htake)
    | exact wpAny_bind (wpAny_bind (m := Builtin.Tuple.tupleExact _) (wpAny_newObj_type (wpAny_pure (wpAny_pure ⟨_, rfl, wpAny_pure h⟩)) htake))
    | exact wpAny_bind (wpAny_bind (m := Builtin.Tuple.tupleExact _) (wpAny_newObj_type (wpAny_pure ⟨_, rfl, wpAny_pure h⟩) htake))
end
end Rvs
namespace DL
open PySem PySem.Spec L2
open PyProof.Rows hiding St
theorem hu64_of {A : Around} {k : Nat} (hr : Room k A) : A.units + 64 < cLine := by
  have := hr.un
  omega
theorem RDs.rev {K : PySem.W.Frag} {p : List Addr} {H : Hp} {ds : List D} {vs : List V} (r : RDs K p H ds vs) : RDs K p H ds.reverse vs.reverse := r.reverse
theorem vals_rev : ∀ {vs : List V} {us : List Value}, Vals vs us → Vals vs.reverse us.reverse := by
  intro vs us r
  induction r with
  | nil => exact .nil
  | cons h r ih =>
    simp only [List.reverse_cons]
    exact ih.append (.cons h .nil)
/-- t[::-1] -/
def mRev (m : ME) : ME := fun r s => (m r s).bind fun d s1 => match d with
  | .tup ds => .ok (.tup ds.reverse) s1
  | _ => .bad
theorem pe_rev {X : Cx} {e : Expr} {te : TE} {pos p2 p3 p4 : Pos} {kk : Nat} (he : PE X e te) : PE X (.Subscript e (.Slice none none (some (.UnaryOp .USub (.Constant (.int 1) kk p3) p4)) p2) pos)
    (fun σ H Q => te σ H fun x H1 => ∃ a xs, x = .ref a ∧ SqT X.K H1 a xs ∧ ∀ p, H1 p = none → Q (.ref p) (upd H1 p (.tup xs.reverse))) := by
  refine ⟨fun pins s σ H Q I h => ?_⟩
  refine Subscript_ (thn (he.run pins s σ H _ I h) fun v s1 ⟨x, H1, I1, r1, q1⟩ => ?_)
  obtain ⟨a, xs, rfl, hx, q⟩ := q1
  refine wpAny_Slice ?_
  rw [evalPart_none]
  refine wpAny_pure ?_
  refine wpAny_pure ?_
  rw [evalPart_some]
  refine thn ((pe_un un_neg pe_int).run pins s1 σ H1 (fun x H2 => x = .int (-1) ∧ H2 = H1) I1 ⟨_, rfl, rfl, rfl⟩) fun u s3 ⟨x, H3, I3, ru, ex, eh⟩ => ?_
  subst ex eh
  obtain ⟨tk, rfl⟩ := ru
  have I4 : Inv X pins σ H3 { s3 with heap := s3.heap.push { cls := .type "slice", data := .fields #[.none, .none, .int (-1) tk] } } := I3.kept (t' := s3.toks) fun b ob q => Heap.get?_push_of_some _ q
  obtain rfl : v = Value.ref a := r1
  obtain ⟨its, r, ht, hz⟩ := I4.tuple hx
  have hlen : its.toArray.size = xs.length := by rw [List.size_toArray]; exact r.length.symm
  show wpAny (model X.prog X.w) X.A (subscriptTail e (.Slice none none (some (.UnaryOp .USub (.Constant (.int 1) kk p3) p4)) p2) (.ref a) (.ref s3.heap.objs.size)) (EP X pins σ Q) X.xe { s3 with heap := s3.heap.push { cls := .type "slice", data := .fields #[.none, .none, .int (-1) tk] } }
  refine tail_any (ops := [.ref a, .ref s3.heap.objs.size]) ht.typeIs PyProof.Rows.slot_tuple_getitem.lookup ?_ (by with_unfolding_all rfl)
  refine Rvs.getItem_tuple_rev ht (Heap.IsSliceOf.new ..) ?_ (by rw [hlen]; exact hz)
  refine ⟨.ref _, _, I4.laid (t' := s3.toks) (o := .tup xs.reverse) (fun b ob q => Heap.get?_push_of_some _ q) (Nat.le_refl _) ⟨by simpa using hz, its.reverse, vals_rev r, ?_⟩, rfl, q _ (I4.hok.fresh (Nat.le_refl _))⟩
  exact IsTup.new _ _
theorem de_rev {X : Cx} {W : WX} {e : Expr} {m : ME} {pos p2 p3 p4 : Pos} {kk : Nat} (he : DE X W e m) : DE X W (.Subscript e (.Slice none none (some (.UnaryOp .USub (.Constant (.int 1) kk p3) p4)) p2) pos) (mRev m) := PE.imp (pe_rev he) fun t H Q ⟨p, r, s, he, hs, q⟩ => by
  refine tE.stepK he hs q fun p1 H1 d v s1 e1 r1 he1 rd q1 => ?_
  cases rd <;> try (exact (show False from q1).elim)
  rename_i h1 r2
  refine ⟨_, _, rfl, h1, fun l hl => ?_⟩
  exact q1 p1 _ (ex_new0 hl) (r1.beside hl) _ (.tup (SqT.of upd_same) ((r2.mono (ex_new0 hl)).reverse))
end DL
end
/-! ### DL16 -/
section
set_option linter.all false
set_option maxRecDepth 100000
/-! DL16: two places changed at once; which built-ins there are. -/
namespace DL
open PySem PySem.Spec L2
open PyProof.Rows hiding St
theorem bt_len : bootBuiltins "len" = some (.builtin "len") := by decide +kernel
theorem bt_all : bootBuiltins "all" = some (.builtin "all") := by decide +kernel
theorem bt_any : bootBuiltins "any" = some (.builtin "any") := by decide +kernel
theorem bt_sum : bootBuiltins "sum" = some (.builtin "sum") := by decide +kernel
theorem bt_max : bootBuiltins "max" = some (.builtin "max") := by decide +kernel
theorem bt_min : bootBuiltins "min" = some (.builtin "min") := by decide +kernel
theorem bt_abs : bootBuiltins "abs" = some (.builtin "abs") := by decide +kernel
theorem bt_isinstance : bootBuiltins "isinstance" = some (.builtin "isinstance") := by decide +kernel
theorem bt_sorted : bootBuiltins "sorted" = some (.builtin "sorted") := by decide +kernel
theorem bt_int : bootBuiltins "int" = some (.type "int") := by decide +kernel
theorem bt_bool : bootBuiltins "bool" = some (.type "bool") := by decide +kernel
theorem bt_tuple : bootBuiltins "tuple" = some (.type "tuple") := by decide +kernel
theorem bt_list : bootBuiltins "list" = some (.type "list") := by decide +kernel
theorem bt_dict : bootBuiltins "dict" = some (.type "dict") := by decide +kernel
theorem bt_str : bootBuiltins "str" = some (.type "str") := by decide +kernel
/-- d into o[i] -/
def mPut (mo mi : ME) (d : D) (r : Env) (s : Sto) : R Unit := match mo r s with
  | .ok o s2 => (match mi r s2 with
    | .ok i s3 => (match gSet o i d s3 with
      | some s4 => .ok () s4
      | none => .bad)
    | _ => .bad)
  | _ => .bad
/-- o[i], u[j] = a, b -/
def mSwap (ma : MA) (o i u j : ME) : MS := fun r s => match ma r s with
  | .ok ds s1 => (match ds with
    | [a, b] => (match mPut o i a r s1 with
      | .ok _ s2 => (match mPut u j b r s2 with
        | .ok _ s3 => .nx r s3
        | _ => .bad)
      | _ => .bad)
    | _ => .bad)
  | .exc e s1 => .exc e r s1
  | .bad => .bad
section
variable {X : Cx} {W : WX} {mo mi : ME}
theorem put_read {K : PySem.W.Frag} {p : List Addr} {H : Hp} {r : Env} {t : L2.St} {s s4 : Sto} {d : D} {v : V} {Q : L2.St → Hp → Prop} (he : RE K p H r t) (hs : RS K p s H) (rd : RD K p H d v) (h : mPut mo mi d r s = .ok () s4)
    (f : ∀ p' H', Ex p H p' H' → RS K p' s4 H' → RE K p' H' r t → Q t H') :
    L2.gSub (tE K W mo) (tE K W mi) (fun o i v H Q => (∃ a xs k j, o = .ref a ∧ i = .int k ∧ H a = some (.lst xs) ∧ ixN xs.length k = some j ∧ Q (upd H a (.lst (xs.set j v)))) ∨ ∃ a H4, o = .ref a ∧ DPut H a i v H4 ∧ Q H4) v t H Q := by
  unfold mPut at h
  split at h
  · rename_i o s2 ho
    split at h
    · rename_i i s3 hi
      split at h
      · rename_i s5 hg
        cases h
        refine ⟨p, r, s, he, hs, ?_⟩
        rw [ho]
        intro p2 H2 e2 r2 ov rdo
        refine ⟨p2, r, s2, he.mono e2, r2, ?_⟩
        rw [hi]
        intro p3 H3 e3 r3 iv rdi
        obtain ⟨a, H4, ex, rs4, h⟩ := gSet_rd r3 (rdo.mono e3) rdi ((rd.mono e2).mono e3) hg
        rcases h with ⟨xs, k, j, rfl, rfl, h1, h2, rfl⟩ | ⟨rfl, g⟩
        · exact .inl ⟨a, xs, k, j, rfl, rfl, h1, h2, f p3 _ ((e2.trans e3).trans ex) rs4 (((he.mono e2).mono e3).mono ex)⟩
        · exact .inr ⟨a, H4, rfl, g, f p3 _ ((e2.trans e3).trans ex) rs4 (((he.mono e2).mono e3).mono ex)⟩
      · cases h
    · cases h
  · cases h
theorem ds_swap {o i u j a b : Expr} {oo ii uu jj : ME} {ma : MA} {p1 p2 pt pt2 pos : Pos} {kt k2 : Nat} {k : Nat} (hr : Room k X.A) (hc : X.calm = true) (hv : DA X W [a, b] ma) (ho : DE X W o oo) (hi : DE X W i ii) (hu : DE X W u uu) (hj : DE X W j jj)
    (ha : ∀ v, assign (.Subscript o i p1) X.env v = (do
      let ov ← holding [v] (eval o X.env)
      let iv ← holding [v, ov] (eval i X.env)
      standAt p1
      holding [v, ov, iv] (setItem ov iv v)
      release [v, ov, iv] []) := by intro _; rfl)
    (hb : ∀ v, assign (.Subscript u j p2) X.env v = (do
      let ov ← holding [v] (eval u X.env)
      let iv ← holding [v, ov] (eval j X.env)
      standAt p2
      holding [v, ov, iv] (setItem ov iv v)
      release [v, ov, iv] []) := by intro _; rfl)
    (hn : (assignEach [.Subscript o i p1, .Subscript u j p2] X.env).length = 2 := by rfl) (hst : (assignEach [.Subscript o i p1, .Subscript u j p2] X.env).findIdx? (·.1) = none := by rfl)
    (he1 : (assignEach (.Subscript o i p1 :: [.Subscript u j p2]) X.env).map (·.2) = assign (.Subscript o i p1) X.env :: (assignEach [.Subscript u j p2] X.env).map (·.2) := by rfl)
    (he2 : (assignEach (.Subscript u j p2 :: []) X.env).map (·.2) = assign (.Subscript u j p2) X.env :: (assignEach [] X.env).map (·.2) := by rfl)
    (hs : swapsWithSole [.Tuple [.Subscript o i p1, .Subscript u j p2] kt pt] (.Tuple [a, b] k2 pt2) pos.line X.env = pure false := by rfl) (hw : swappedStores [.Tuple [.Subscript o i p1, .Subscript u j p2] kt pt] (.Tuple [a, b] k2 pt2) X.env = pure none := by rfl)
    (h1 : (assignEach [.Tuple [.Subscript o i p1, .Subscript u j p2] kt pt] X.env).map (·.2) = [assign (.Tuple [.Subscript o i p1, .Subscript u j p2] kt pt) X.env] := by rfl) :
    DS X W (.Assign [.Tuple [.Subscript o i p1, .Subscript u j p2] kt pt] (.Tuple [a, b] k2 pt2) pos) (mSwap ma oo ii uu jj) :=
  PS.imp (ps_asg (de_tup hv) (pg_tup (n := 2) hc (pgs_cons (pg_sub ho hi (PSet.or set_list (set_dict (hu_of hr))) ha) (pgs_cons (pg_sub hu hj (PSet.or set_list (set_dict (hu_of hr))) hb) pgs_nil he2) he1) hn hst) hs hw h1) fun Z t H ⟨p, r, s, he, hs, q⟩ => by
    refine ⟨p, r, s, he, hs, ?_⟩
    unfold mSwap at q
    unfold mTup
    cases hq : ma r s with
    | exc e s1 => rw [hq] at q; exact fun p' H' d e' rs' rx => q p' H' t d e' rs' (he.mono e') rx
    | bad => rw [hq] at q; exact q
    | ok ds s1 =>
      rw [hq] at q
      simp only at q
      split at q
      · rename_i d1 d2
        simp only [R.bind_ok]
        rw [if_pos (show [d1, d2].length ≤ sizeLine by rw [sizeLine_eq]; exact (by decide : 2 ≤ 16777216))]
        intro p1 H1 e1 r1 v rd
        split at q
        · rename_i u2 s2 hp1
          split at q
          · rename_i u3 s3 hp2
            cases rd with
            | tup ht rt =>
              obtain ⟨v1, v2, rfl, rd1, rd2⟩ := two_rd rt
              refine ⟨_, _, rfl, ht, rfl, v1, [v2], rfl, ?_⟩
              refine put_read (he.mono e1) r1 rd1 hp1 fun p2 H2 e2 r2 he2 => ?_
              refine ⟨v2, [], rfl, put_read he2 r2 (rd2.mono e2) hp2 fun p3 H3 e3 r3 he3 => ⟨rfl, ?_⟩⟩
              exact q p3 H3 t ((e1.trans e2).trans e3) r3 he3
          · exact q.elim
        · exact q.elim
      · exact q.elim
end
end DL
end
/-! ### DL17 -/
section
set_option linter.all false
set_option maxRecDepth 100000
/-! DL17: comparisons as tests. -/
namespace DL
open PySem PySem.Spec L2
open PyProof.Rows hiding St
section
variable {X : Cx} {W : WX} {pos : Pos} {a b c : Expr} {m n o : ME} {g g' : G2}
theorem asB_read {K : PySem.W.Frag} {m : ME} {t : L2.St} {H : Hp} {Q : Bool → Hp → Prop} (q : tT K W (asB m) t H Q) : tE K W m t H (fun x H' => ∃ k, x = .bl k ∧ Q k H') := by
  obtain ⟨p, r, s, he, hs, q⟩ := q
  refine ⟨p, r, s, he, hs, (pR.bind q).imp fun p1 H1 d s1 e1 r1 q1 v rd => ?_⟩
  cases rd with
  | bl k => exact ⟨k, rfl, q1 p1 H1 .refl r1⟩
  | _ => exact (show False from q1).elim
theorem dt_cmp {op : CmpOp} (ho : OpD X (compareOp op) g) (ha : DE X W a m) (hb : DE X W b n) (hm : behindInMarks op b = false) : DT X W (.Compare a [op] [b] pos) (asB (mBin g m n)) := PT.imp (pt_cmpR ho ha hb hm) fun _ _ _ q => tOp_of (asB_read q)
theorem chain_read {K : PySem.W.Frag} {t : L2.St} {H : Hp} {Q : VK} (q : tE K W (mChain g g' m n o) t H Q) :
    tChain (fun x y H Q => ∃ p s d e z s', RS K p s H ∧ RD K p H d x ∧ RD K p H e y ∧ g d e s = some (z, s') ∧ Fin K p H z s' Q) (fun x y H Q => ∃ p s d e z s', RS K p s H ∧ RD K p H d x ∧ RD K p H e y ∧ g' d e s = some (z, s') ∧ Fin K p H z s' Q)
      (tE K W m) (tE K W n) (tE K W o) t H Q := by
  obtain ⟨p, r, s, he, hs, q⟩ := q
  refine tE.step he hs q fun p1 H1 d v s1 e1 r1 he1 rd q1 => ?_
  refine tE.step he1 r1 q1 fun p2 H2 e u s2 e2 r2 he2 rd2 q2 => ?_
  split at q2
  · rename_i s3 hg
    refine ⟨p2, s2, d, e, .bl true, s3, r2, rd.mono e2, rd2, hg, fun p3 H3 v3 e3 r3 rd3 => ?_⟩
    cases rd3
    refine ⟨true, rfl, ?_⟩
    rw [if_pos rfl]
    refine tE.step (he2.mono e3) r3 (pR.mono e3 q2) fun p4 H4 f w s4 e4 r4 he4 rd4 q4 => ?_
    obtain ⟨z, s', hz, hf⟩ := pR.fin q4
    exact ⟨p4, s4, e, f, z, s', r4, (rd2.mono e3).mono e4, rd4, hz, hf⟩
  · rename_i s3 hg
    refine ⟨p2, s2, d, e, .bl false, s3, r2, rd.mono e2, rd2, hg, fun p3 H3 v3 e3 r3 rd3 => ?_⟩
    cases rd3
    refine ⟨false, rfl, ?_⟩
    rw [if_neg Bool.false_ne_true]
    exact q2 p3 H3 e3 r3 _ (.bl false)
  · exact q2.elim
theorem dt_chain {op op' : CmpOp} (ho : OpD X (compareOp op) g) (ho' : OpD X (compareOp op') g') (ha : DE X W a m) (hb : DE X W b n) (hc : DE X W c o) (hm : lastMarks [op, op'] [b, c] = false := by with_unfolding_all rfl) :
    DT X W (.Compare a [op, op'] [b, c] pos) (asB (mChain g g' m n o)) := PT.imp (pt_chain ho ho' ha hb hc hm) fun _ _ _ q => chain_read (asB_read q)
end
end DL
end
/-! ### DL18 -/
section
set_option linter.all false
set_option maxRecDepth 100000
/-! DL18: the script. -/
namespace DL
open PySem PySem.Spec L2
open PyProof.Rows hiding St
/-- in the slot 0 stands the script -/
def Sc (K : PySem.W.Frag) (ns : List Int) (t : L2.St) (H : Hp) : Prop := ∃ a, t[0]? = some (some (.ref a)) ∧ SqL K H a (ns.map V.int)
def scD (t : L2.St) : D := match t[0]? with
  | some (some v) => .con v
  | _ => .non
/-- a def of the script: its promise -/
def spS (K : PySem.W.Frag) (m : List Int → MF) : Sp := fun vs H Q E => ∃ a ns p s, vs = [.ref a] ∧ ns.length ≤ 63 ∧ SqL K H a (ns.map V.int) ∧ RS K p s H ∧ pF K p H (m ns [.con (.ref a)] s) Q E
abbrev FnS (P : Program) (w : World) (K : PySem.W.Frag) (mg : Str → Option Value) (base : Heap) (k : Nat) (f : Addr) (fd : FuncData) (ps : List Str) (m : List Int → MF) : Prop := FnOk P w K mg base (L2.CX P w) k f fd ps (spS K m)
def Ks (P : Program) (w : World) (K : PySem.W.Frag) (mg : Str → Option Value) (base : Heap) (x : Str) (k : Nat) (ps : List Str) (m : List Int → MF) : Prop :=
  ∃ f fd, mg x = some (.ref f) ∧ PySem.W.keepIn K (.ref f) = true ∧ Binds K fd ps [] ∧ FnS P w K mg base k f fd ps m
def mI_scr (ns : List Int) : MI := fun _ s => .ok (ns.map .int, [(s.length, .lst (ns.map .int))]) (s ++ [.lst (ns.map .int)])
theorem cut63 {xs : List V} (h : xs.length ≤ 63) : cutV xs none (some 63) = xs := by
  unfold cutV
  have e1 : HT.sIx xs.length 0 none = 0 := rfl
  have e2 : HT.sIx xs.length xs.length (some 63) = min 63 xs.length := HT.sIx_nat xs.length xs.length 63
  rw [e1, e2, Nat.min_eq_right h]
  simp
section
variable {X : Cx} {W : WX} {pos : Pos} {ns : List Int}
/-- script[:63] -/
theorem pi_scr {tg e : Expr} {p2 p3 : Pos} {kk : Nat} (hl : ns.length ≤ 63) (he : PE X e (tVar 0)) : PI X tg (.Subscript e (.Slice none (some (.Constant (.int 63) kk p3)) none p2) pos) (fun t H Q => Sc X.K ns t H ∧ iD X.K W (mI_scr ns) t H Q) :=
  PI.imp (pi_list (pe_slice (sl_list (X := X)) he po_none (po_some pe_int))) fun t H Q ⟨⟨a, h0, hs⟩, p, r, s, hre, hrs, q⟩ => by
    have hcut : cutV (ns.map V.int) none (some 63) = ns.map V.int := cut63 (by simpa using hl)
    refine ⟨_, h0, ?_⟩
    refine ⟨_, rfl, a, ns.map V.int, rfl, hs, fun l hl => ?_⟩
    rw [hcut]
    have hx := ex_new (p := p) (o := .lst (ns.map V.int)) hl
    have h2 : RS X.K (p ++ [l]) (s ++ [.lst (ns.map .int)]) (upd H l (.lst (ns.map V.int))) := hrs.push hl (.lst (RDs.of_ints ns))
    refine ⟨l, rfl, ⟨_, SqL.of upd_same⟩, q _ _ hx h2 _ (str_lst (by rw [← hrs.len]; simp))⟩
/-- the rest behind a statement that reads the script -/
theorem pss_scr {st : Stmt} {rest : List Stmt} {m u : MS} (h : PS X st (fun Z t H => Sc X.K ns t H ∧ tS X.K W m Z t H)) (h2 : DSs X W rest u) : PSs X (st :: rest) (fun Z t H => Sc X.K ns t H ∧ tS X.K W (mSeq m u) Z t H) :=
  PSs.imp (pss_cons h h2) fun Z t H ⟨hsc, p, r, s, he, hs, q⟩ => by
    refine ⟨hsc, p, r, s, he, hs, ?_⟩
    unfold mSeq at q
    cases hq : m r s with
    | nx r1 s1 =>
      rw [hq] at q
      exact fun p' H' t' ex rs re => ⟨p', r1, s1, re, rs, pS.mono ex q⟩
    | rt d s1 => rw [hq] at q; exact q
    | bk r1 s1 => rw [hq] at q; exact q
    | ct r1 s1 => rw [hq] at q; exact q
    | exc e r1 s1 => rw [hq] at q; exact q
    | bad => rw [hq] at q; exact q
/-- name = [.. for .. in script[:63]] -/
theorem ps_setScr {i : Nat} {y : Str} {py : Pos} {elt tg iter : Expr} {ifs : List Expr} {scope : Scope} {own : List (Str × Nat)} {pos spos : Pos} {mi : MI} {g : TG} {mg : MG} {tt : MT} {te : ME} (hc : X.calm = true) (hN : X.N.Nodup) (hy : X.N[i]? = some y) (hyl : X.env.scope.names.lookup y = some .local)
    (hsw : swapsWith (.ListComp elt [⟨tg, iter, ifs, 0⟩] scope pos) (some (.Name y py)) spos.line X.env = pure true) (tk : TgOk X.K g mg (own.map (·.2))) (hi : PI X tg iter (fun t H Q => Sc X.K ns t H ∧ iD X.K W mi t H Q)) (ok : BlkOk X.N X.env.scope scope own)
    (hg : ∀ (s : Shared) (H : Hp) (C : Addr) (cl : List (Str × Addr)) (fp : List Addr), PG (X.blk s H scope (compEnvC scope cl C X.env) fp) tg g) (ht : ∀ (s : Shared) (H : Hp) (C : Addr) (cl : List (Str × Addr)) (fp : List Addr), PTs (X.blk s H scope (compEnvC scope cl C X.env) fp) ifs (tT X.K W0 tt))
    (he : ∀ (s : Shared) (H : Hp) (C : Addr) (cl : List (Str × Addr)) (fp : List Addr), DE (X.blk s H scope (compEnvC scope cl C X.env) fp) W0 elt te) (hs : ∀ x, foldedSetIterable iter X.env x = pure x := by intro _; rfl) :
    PS X (.Assign [.Name y py] (.ListComp elt [⟨tg, iter, ifs, 0⟩] scope pos) spos) (fun Z t H => Sc X.K ns t H ∧ tS X.K W (mAsg (mNew (mLc mi mg tt te (own.map (·.2)))) (mgName i)) Z t H) :=
  PS.imp (ps_setLc (te := tE X.K W0 te) (tt := tT X.K W0 tt) hc hN hy hyl hsw hi ok hg ht he hs) fun Z t H ⟨hsc, q⟩ => by
    have q2 := tAsg_of (vs := [i]) (g := gName i) (tg_name (by simp)) q
    obtain ⟨p, r, s, he, hs, q2⟩ := q2
    have q4 : tLc (iD X.K W mi) g (tT X.K W0 tt) (tE X.K W0 te) (own.map (·.2)) t H (fun x H1 => gName i x t H1 Z.nx) := lc_read tk ⟨p, r, s, he, hs, (pR.bind q2).imp fun p1 H1 ds s1 e1 r1 q3 a vs ha rds =>
      q3 (p1 ++ [a]) _ (ex_new ha) (r1.push ha (.lst (rds.mono (ex_new ha)))) _ (.loc (by rw [← r1.len]; simp))⟩
    exact ⟨hsc, q4⟩
theorem pss_one_scr {st : Stmt} {m : MS} (h : PS X st (fun Z t H => Sc X.K ns t H ∧ tS X.K W m Z t H)) : PSs X [st] (fun Z t H => Sc X.K ns t H ∧ tS X.K W m Z t H) := pss_one h
/-- f(script), the script in slot 0 -/
def mCallS (f : MF) : ME := fun r s => match r[0]? with
  | some (some (D.con v)) => f [D.con v] s
  | _ => .bad
/-- name = f(script) -/
theorem ps_setCallScr {i k j : Nat} {y x z : Str} {py p1 p2 p3 spos : Pos} {ps : List Str} {m : List Int → MF} (h63 : ns.length ≤ 63) (h : Ks X.prog X.w X.K X.mg X.base x k ps m) (hr : Room j X.A) (hj : k ≤ j) (tk : Takes X W) (hg : Gl X x) (he : PE X (.Name z p2) (tVar 0)) (hN : X.N.Nodup) (hy : X.N[i]? = some y) (hyl : Loc X.env.scope y)
    (hs : swapsWith (.Call (.Name x p1) [.Name z p2] [] p3) (some (.Name y py)) spos.line X.env = pure false := by rfl)
    (hf : X.fn y = true ∨ X.env.scope.names.lookup y = some .local := by first | exact .inl rfl | exact .inr rfl | assumption)
    (hdb : (x == ("__debug__" : Str)) = false := by decide) (hst : starEach (.Name z p2 :: []) X.env = (false, eval (.Name z p2) X.env) :: starEach [] X.env := by rfl) (hpl : (backTo p3 (starEach [] X.env)).any (·.1) = false := by rfl) :
    PS X (.Assign [.Name y py] (.Call (.Name x p1) [.Name z p2] [] p3) spos) (fun Z t H => Sc X.K ns t H ∧ tS X.K W (mAsg (mCallS (m ns)) (mgName i)) Z t H) := by
  obtain ⟨f, fd, h1, h2, h3, h4⟩ := h
  refine PS.imp (ps_set hN hy hyl (pe_callS (E := WE W) h4 (hr.mono hj) hg h1 h2 h3 (fun σ => passAt tk σ) (pa_cons he pa_nil hst) hdb hst hpl) hs hf) fun Z t H ⟨⟨a, ha, hsq⟩, q⟩ => ?_
  have q2 := tAsg_of (vs := [i]) (g := gName i) (tg_name (by simp)) q
  obtain ⟨p, r, s, he, hs, q2⟩ := q2
  refine ⟨_, ha, ?_⟩
  unfold mCallS at q2
  split at q2
  · rename_i v hv
    obtain ⟨v', e1, e2⟩ := he.at_ 0 _ hv
    rw [ha] at e1
    cases e1
    cases e2
    exact ⟨a, ns, p, s, rfl, h63, hsq, hs, pF_of q2⟩
  · exact q2.elim
end
/-- a def of the script by its body -/
theorem fnS_D {P : Program} {w : World} {K : PySem.W.Frag} {mg : Str → Option Value} {base : Heap} {x qual : Str} {st : Stmt} {f : Addr} {fd : FuncData} {N ps : List Str} {k : Nat} {mb : List Int → MS} (F : Fun K x qual st f fd) (S : FnScope N ps (defScope st)) (h1 : ps.length = 1)
    (hb : ∀ (ns : List Int), ns.length ≤ 63 → ∀ (cdv : Value) (A : Around) (outer : List PySem.Env) (s : Shared) (H : Hp) (E : XK), Room k (A.deeper (envOfC qual (defScope st) s.heap.objs.size f cdv)) →
      PSs (cxOf (L2.CX P w) P w K mg base N qual (defScope st) f cdv A outer s H E) (defBody st) (fun Z t H' => Sc K ns t H' ∧ tS K (fun c d _ H => E c d H) (mb ns) Z t H')) : FnS P w K mg base (k + 1) f fd ps (fun ns => mDef N.length ps.length (mb ns)) := by
  refine F.okX S (fun vs H Q E h => ?_) (fun cdv A outer s H vs Q E hr h => ?_)
  · obtain ⟨a, ns, p, s, rfl, _⟩ := h
    rw [h1]; rfl
  · obtain ⟨a, ns, p, st', rfl, h63, hsq, hs, q⟩ := h
    refine ⟨_, hb ns h63 cdv A outer s H E hr, ⟨a, ?_, hsq⟩, ?_⟩
    · unfold L2.start
      rfl
    · have r : RDs K p H [.con (.ref a)] [V.ref a] := .cons (.con _) .nil
      refine ⟨p, _, st', re_start r N, hs, ?_⟩
      unfold mDef at q
      dsimp only at q
      rw [if_pos (by rw [h1]; rfl)] at q
      rw [h1] at q
      show pS K _ _ p H (mb ns ([D.con (.ref a)].map some ++ List.replicate (N.length - 1) none) st')
      cases hq : mb ns ([D.con (.ref a)].map some ++ List.replicate (N.length - 1) none) st' with
      | nx r1 s1 => rw [hq] at q; exact fun p' H' t ex rs re => q p' H' .non ex rs .non
      | rt d s1 => rw [hq] at q; exact fun p' H' v ex rs rd => q p' H' v ex rs rd
      | exc e r1 s1 => rw [hq] at q; exact fun p' H' t d ex rs re rx => q p' H' d ex rs rx
      | bk _ _ => rw [hq] at q; exact q.elim
      | ct _ _ => rw [hq] at q; exact q.elim
      | bad => rw [hq] at q; exact q.elim
end DL
end
/-! ### DL19 -/
section
set_option linter.all false
set_option maxRecDepth 100000
/-! DL19: words for the end. -/
namespace DL
open PySem PySem.Spec L2
open PyProof.Rows hiding St
theorem plain_nil {K : PySem.W.Frag} {f : Str} : Plain K [] f := fun C h => by cases h
theorem plain_cons {K : PySem.W.Frag} {C : Addr} {cs : List Addr} {f : Str} (h1 : Cls K C) (h2 : NoAttr K C f) (h : Plain K cs f) : Plain K (C :: cs) f := fun D hd => by
  rcases List.mem_cons.mp hd with rfl | hd
  · exact ⟨h1, h2⟩
  · exact h D hd
theorem plain_one {K : PySem.W.Frag} {C : Addr} {f : Str} (h1 : Cls K C) (h2 : NoAttr K C f) : Plain K [C] f := plain_cons h1 h2 plain_nil
theorem rs_nil {K : PySem.W.Frag} {H : Hp} : RS K [] [] H := ⟨rfl, .nil, fun n ob a e => by simp at e⟩
theorem cx_none {P : Program} {w : World} {H : Hp} {s s' : Shared} {e : Value} (h : L2.CX P w [] H s (fun _ _ _ => False) e s') : False := by
  obtain ⟨_, _, _, _, _, _, _, _, _, _, _, _, h⟩ := h
  exact h
theorem pf_true {K : PySem.W.Frag} {H : Hp} {r : R D} {s : Sto} {Q : VK} {E : XK} (hs : r = .ok (.bl true) s) (q : ∀ H2, Q (.bl true) H2) : pF K [] H r Q E := by
  rw [hs]
  intro p' H' v ex rs rd
  cases rd
  exact q H'
end DL
end
/-! ### DL20 -/
section
set_option linter.all false
set_option maxRecDepth 100000
set_option maxHeartbeats 4000000
/-! DL20: sets of whole numbers, sorted; in, not in; any and all by truth. -/
namespace DL
open PySem PySem.Spec L2
open PyProof.Rows hiding St
section
variable {P : Program} {w : World} {A : Around} {E : Value → Shared → Prop} {s : Shared}
/-- a set with nothing in it -/
abbrev mtSet (w : World) : Obj := { cls := .type "set", dict := none, data := .set #[] 0 (.fresh 0 0 (!w.params.followText "set-order")) }
set_option maxRecDepth 100000 in
set_option maxHeartbeats 3200000 in
/-- set(xs), xs a list of whole numbers -/
theorem set_of_list {a : Addr} {xs : Array Value} (ms : List Int) {Q : Value → Shared → Prop} (calm : A.handled = none) (isl : s.heap.IsList a xs) (hms : IntsAre xs.toList ms) (few : ms.length + 1 < scanBound)
    (go : ∀ (g : Heap) (u m : Nat), SetR w g s.heap.objs.size (fun j => decide (j ∈ ms)) m → m ≤ ms.length → (∀ b o, s.heap.get? b = some o → g.get? b = some o) → Q (.ref s.heap.objs.size) { s with heap := g, toks := u }) :
    wpAny (model P w) A (call (.type "set") [.ref a]) Q E s := by
  have sz : xs.size = ms.length := by have := IntsAre.length hms; rwa [Array.length_toList] at this
  obtain ⟨k1, k2, mro⟩ := F.called_set.mro
  have f1 := F.called_set.made
  have f2 := F.called_set.sub
  refine wpAny_call (codeAny_of_tree ?_)
  show wpAny _ _ (callAny (Value.type "set") ⟨[.ref a], []⟩) _ _ _
  refine wpAny_pure ⟨Code.quiet_builtin _ (by decide +kernel), codeAny_builtin F.entry_type_call ?_⟩
  rw [Around.under_plain (weight_type_call_type "set" [.ref a] []) rfl]
  have f3 := F.called_set.notType
  have f4 := F.called_set.canCreate
  have f5 := F.typeCall_set_1 (.ref a)
  repeat (any_goals (first | assumption | wp_step))
  refine codeAny_mono (code_set_led1 (.ref a) (E := E) (Q₁ := fun z t => z = .ref s.heap.objs.size ∧ t = { s with heap := s.heap.push (mtSet w) }) ⟨rfl, rfl⟩) fun out t1 q1 => ?_
  cases out with
  | error e => exact q1
  | ok fl =>
    cases fl with
    | ret z =>
      obtain ⟨rfl, rfl⟩ := q1
      have g0 : (s.heap.push (mtSet w)).get? s.heap.objs.size = some (mtSet w) := Heap.get?_push_size _ rfl
      have ty : Shared.TypeIs { s with heap := s.heap.push (mtSet w) } (.ref s.heap.objs.size) "set" := ⟨_, g0, rfl⟩
      have f6 := F.called_set.init.lookup
      have f7 := F.called_set.init.bind (.ref s.heap.objs.size)
      repeat (any_goals (first | assumption | wp_step))
      refine codeAny_mono (codeAny_call_builtin (R := wants (fun z t => z = .none ∧ ∃ g u m, t = { s with heap := g, toks := u } ∧ SetR w g s.heap.objs.size (fun j => decide (j ∈ ms)) m ∧ m ≤ ms.length ∧
          (∀ b o, s.heap.get? b = some o → g.get? b = some o)) E) F.called_set.init.plain F.entry_set_init (check_set_init_1 ty ?_)) fun out2 t2 q2 => ?_
      · obtain ⟨ob, hob, c1, n1, d1⟩ := isl
        obtain ⟨ocls, odict, odata, oslots⟩ := ob
        simp only at c1 d1
        subst c1; subst d1
        have hob2 : (s.heap.push (mtSet w)).get? a = some { cls := .type "list", dict := odict, data := .seq xs n1, slots := oslots } := Heap.get?_push_of_some _ hob
        have f8 := F.sub_list_set
        have f9 := F.sub_list_frozenset
        have nd : (Value.type "list" == Value.type "dict") = false := by decide
        have isl2 : (s.heap.push (mtSet w)).IsList a xs := ⟨_, hob2, rfl, n1, rfl⟩
        unfold Builtin.«set.__init__» noKeywords Builtin.Frozenset.updateFrom
        generalize ePI : pyIter = PI
        wp_walk
        subst ePI
        refine wpAny_pyIter_list isl2 ?_
        refine wpAny_bind (wpAny_runValue ?_)
        have la : a < s.heap.objs.size := Heap.lt_size hob
        have calm3 : A.in1.in1.in1.handled = none := by simp [calm]
        have ne : a ≠ (s.heap.push (mtSet w)).objs.size := by
          rw [Heap.size_push]; exact Nat.ne_of_lt (Nat.lt_succ_of_lt la)
        have nin : s.heap.objs.size ∉ [(s.heap.push (mtSet w)).objs.size, a] := by
          rw [Heap.size_push]
          intro z
          rcases List.mem_cons.mp z with z | z
          · exact Nat.ne_of_lt (Nat.lt_succ_self _) z
          · exact Nat.ne_of_gt la (List.mem_singleton.mp z)
        have val : ∀ (i : Nat) (v : Value), xs[i]? = some v → ∃ k t, ms[i]? = some k ∧ v = .int k t := fun i v hv => by
          have hi : i < ms.length := by rw [← sz]; exact (Array.getElem?_eq_some_iff.mp hv).1
          obtain ⟨t, e⟩ := PyProof.Rows.IntsAre.int_at hms i v (by rw [Array.getElem?_toList]; exact hv)
          exact ⟨ms[i], t, List.getElem?_eq_getElem hi, by rw [e]; simp [List.getD, hi]⟩
        refine set_update_ints (Walks.list calm3 _ a ne xs).toS s.heap.objs.size nin ms sz few val (xs.size - 0) 0 _ (by omega) (Nat.zero_le _) ⟨⟨_, Heap.get?_push_size _ rfl, rfl, rfl⟩, isl2.push _⟩ ?start ?fin
        case start => exact ⟨0, Nat.le_refl 0, setR_new_at (Heap.get?_push_of_some _ g0)⟩
        case fin =>
          intro t3 m hm hm2 hS
          obtain ⟨g, g2, d2, u, o2⟩ := t3
          have e1 : g2 = s.gens := hm.gens
          have e2 : d2 = s.drawn := hm.drawn
          have e3 : o2 = s.os := hm.os
          subst e1 e2 e3
          show wpAny _ _ _ _ _ _
          refine wpAny_pure ?_
          show wpAny _ _ (ret _) _ _ _
          rw [sz] at hm2
          refine wpAny_pure ⟨rfl, g, u, m, rfl, hS, hm2, fun b o e => ?_⟩
          have hb := Heap.lt_size e
          refine hm.heap b o (fun z => ?_) (Heap.get?_push_of_some _ (Heap.get?_push_of_some _ e))
          rcases List.mem_cons.mp z with z | z
          · exact Nat.ne_of_lt hb z
          · have z := List.mem_singleton.mp z
            rw [Heap.size_push] at z
            exact Nat.ne_of_lt (Nat.lt_succ_of_lt hb) z
      · cases out2 with
        | error e => exact q2
        | ok fl2 =>
          cases fl2 with
          | ret z2 =>
            obtain ⟨rfl, g, u, m, rfl, hS, hm, hk⟩ := q2
            repeat (any_goals (first | assumption | wp_step))
            exact go _ _ _ hS hm hk
          | _ => exact q2.elim
    | _ => exact q1.elim
end
/-! ### strictly ascending lists -/
def insU (x : Int) : List Int → List Int
  | [] => [x]
  | y :: ys => if x < y then x :: y :: ys else if x = y then y :: ys else y :: insU x ys
def srtU : List Int → List Int
  | [] => []
  | x :: xs => insU x (srtU xs)
theorem mem_insU {x k : Int} : ∀ {ys : List Int}, k ∈ insU x ys ↔ k = x ∨ k ∈ ys
  | [] => by simp [insU]
  | y :: ys => by
    unfold insU
    split
    · simp
    · split
      · rename_i e
        subst e
        simp
      · simp only [List.mem_cons, mem_insU]
        constructor
        · rintro (h | h | h) <;> simp [h]
        · rintro (h | h | h) <;> simp [h]
theorem insU_lt {x : Int} : ∀ {ys : List Int}, ys.Pairwise (· < ·) → (insU x ys).Pairwise (· < ·)
  | [], _ => by simp [insU]
  | y :: ys, h => by
    have h' := List.pairwise_cons.mp h
    unfold insU
    split
    · rename_i hx
      refine List.pairwise_cons.mpr ⟨fun z hz => ?_, h⟩
      rcases List.mem_cons.mp hz with rfl | hz
      · exact hx
      · have := h'.1 z hz
        omega
    · split
      · exact h
      · refine List.pairwise_cons.mpr ⟨fun z hz => ?_, insU_lt h'.2⟩
        rcases mem_insU.mp hz with rfl | hz
        · omega
        · exact h'.1 z hz
theorem srtU_lt : ∀ xs : List Int, (srtU xs).Pairwise (· < ·)
  | [] => by simp [srtU]
  | x :: xs => insU_lt (srtU_lt xs)
theorem mem_srtU {k : Int} : ∀ {xs : List Int}, k ∈ srtU xs ↔ k ∈ xs
  | [] => by simp [srtU]
  | x :: xs => by simp [srtU, mem_insU, mem_srtU]
theorem strict_ext : ∀ {l m : List Int}, l.Pairwise (· < ·) → m.Pairwise (· < ·) → (∀ k, k ∈ l ↔ k ∈ m) → l = m
  | [], [], _, _, _ => rfl
  | [], y :: m, _, _, h => absurd ((h y).mpr List.mem_cons_self) (by simp)
  | x :: l, [], _, _, h => absurd ((h x).mp List.mem_cons_self) (by simp)
  | x :: l, y :: m, h1, h2, h => by
    have a := List.pairwise_cons.mp h1
    have b := List.pairwise_cons.mp h2
    have e : x = y := by
      rcases List.mem_cons.mp ((h x).mp List.mem_cons_self) with e | e
      · exact e
      · rcases List.mem_cons.mp ((h y).mpr List.mem_cons_self) with e2 | e2
        · exact e2.symm
        · have := a.1 y e2
          have := b.1 x e
          omega
    subst e
    rw [strict_ext a.2 b.2 fun k => ?_]
    constructor
    · intro hk
      rcases List.mem_cons.mp ((h k).mp (List.mem_cons_of_mem _ hk)) with e | e
      · have := a.1 k hk
        omega
      · exact e
    · intro hk
      rcases List.mem_cons.mp ((h k).mpr (List.mem_cons_of_mem _ hk)) with e | e
      · have := b.1 k hk
        omega
      · exact e
theorem srtU_same {xs : List Int} (h : xs.Pairwise (· < ·)) : srtU xs = xs := strict_ext (srtU_lt xs) h fun _ => mem_srtU
theorem same_len {l m : List Int} (h1 : l.Nodup) (h2 : m.Nodup) (h : ∀ k, k ∈ l ↔ k ∈ m) : l.length = m.length := ((List.perm_ext_iff_of_nodup h1 h2).mpr h).length_eq
theorem lt_nodup {l : List Int} (h : l.Pairwise (· < ·)) : l.Nodup := h.imp fun h => by omega
theorem setR_len {w : World} {h : Heap} {a : Addr} {ms : List Int} {n : Nat} (R : SetR w h a (fun j => decide (j ∈ ms)) n) : n = (srtU ms).length := by
  obtain ⟨o, es, ep, t, _, _, _, _, nd, hm, _, _, hn, _⟩ := R
  rw [← hn, ← Array.length_toList, ← List.length_map (f := keyOf)]
  exact same_len nd (lt_nodup (srtU_lt ms)) fun k => by rw [← hm k, decide_eq_true_eq, mem_srtU]
/-! ### sorted(set(..)) -/
def rSetI (K : PySem.W.Frag) (w : World) : List V → Hp → VK → Prop := fun vs H Q => ∃ (l : Addr) (ns : List Int), vs = [.ref l] ∧ (SqL K H l (ns.map V.int) ∨ SqT K H l (ns.map V.int)) ∧ ns.length ≤ 1000 ∧
  ∀ a, H a = none → Q (.ref a) (upd H a (SetO w a (fun j => decide (j ∈ ns)) (srtU ns).length))
theorem cr_setI {X : Cx} (hc : X.calm = true) : CallR X (.type "set") (rSetI X.K X.w) := by
  intro pins s σ H vs us Q I r h
  obtain ⟨l, ns, rfl, hl, hn, q⟩ := h
  rw [Vals.ref1 r]
  have hf : H s.heap.objs.size = none := I.hok.fresh (Nat.le_refl _)
  have fin : ∀ (g : Heap) (u m : Nat), SetR X.w g s.heap.objs.size (fun j => decide (j ∈ ns)) m → (∀ b o, s.heap.get? b = some o → g.get? b = some o) → ∃ v H', Inv X pins σ H' { s with heap := g, toks := u } ∧ RelV v (Value.ref s.heap.objs.size) ∧ Q v H' := fun g u m R k => by
    rw [setR_len R] at R
    exact ⟨.ref s.heap.objs.size, _, I.laid (t' := u) k (Nat.le_refl _) (setO_new R), rfl, q _ hf⟩
  rcases hl with hl | hl
  · obtain ⟨its, rv, pl, hz⟩ := I.list hl
    exact set_of_list ns (I.ok.hd hc) pl.isList (ints_of_vals rv) (by unfold scanBound; omega) fun g u m R _ k => fin g u m R k
  · obtain ⟨its, rv, pl, hz⟩ := I.tuple hl
    exact call_set_tupI ns (I.ok.hd hc) pl (ints_of_vals rv) (by unfold scanBound; omega) fun g u m R _ k => fin g u m R k
theorem bt_set : bootBuiltins "set" = some (.type "set") := by decide +kernel
noncomputable def gSrtU : GL := fun ds s => match ds with
  | [d] => (itS s d).bind fun xs => (intsD xs).bind fun ns => if ns.length ≤ 1000 ∧ (srtU ns).length < 64 then some ((srtU ns).map .int) else none
  | _ => none
theorem itS_rd {K : PySem.W.Frag} {p : List Addr} {H : Hp} {s : Sto} {d : D} {v : V} {xs : List D} (hs : RS K p s H) (r : RD K p H d v) (h : itS s d = some xs) : ∃ a us, v = .ref a ∧ (SqL K H a us ∨ SqT K H a us) ∧ RDs K p H xs us := by
  cases d with
  | tup ds =>
    cases h
    cases r with
    | tup h1 r1 => exact ⟨_, _, rfl, .inr h1, r1⟩
  | loc n =>
    obtain ⟨a, us, e, h1, h2⟩ := itL_rd hs r h
    exact ⟨a, us, e, .inl (SqL.of h1), h2⟩
  | _ => cases h
theorem dl_srtU {X : Cx} {W : WX} {e : Expr} {ma : MA} {p p2 q pos : Pos} (hc : X.calm = true) (hg : Gl X "sorted") (hm : X.mg "sorted" = none) (hg2 : Gl X "set") (hm2 : X.mg "set" = none) (ha : DA X W [e] ma)
    (he : starEach [e] X.env = (false, eval e X.env) :: starEach [] X.env := by rfl) (hpl : (backTo q (starEach [] X.env)).any (·.1) = false := by rfl)
    (he2 : starEach [Expr.Call (.Name "set" p2) [e] [] q] X.env = (false, eval (.Call (.Name "set" p2) [e] [] q) X.env) :: starEach [] X.env := by rfl) (hpl2 : (backTo pos (starEach [] X.env)).any (·.1) = false := by rfl) :
    DLs X W (.Call (.Name "sorted" p) [.Call (.Name "set" p2) [e] [] q] [] pos) (mCallL gSrtU ma) :=
  PE.imp (pe_callB (cr_sortedSet hc) hg hm bt_sorted (pa_cons (pe_callTy (cr_setI hc) hg2 hm2 bt_set ha (by decide) (by decide) he hpl) pa_nil he2) (by decide) (by decide) he2 hpl2) fun t H Q ⟨p, r, s, he, hs, q⟩ => by
    refine ⟨p, r, s, he, hs, (pR.bind q).imp fun p1 H1 ds s1 e1 r1 q1 vs rds => ?_⟩
    split at q1
    · rename_i us hu
      unfold gSrtU at hu
      split at hu
      · rename_i d
        simp only [Option.bind_eq_some_iff] at hu
        obtain ⟨xs, h1, ns, h2, h3⟩ := hu
        split at h3
        · rename_i hb
          cases h3
          obtain ⟨v, rfl, rd⟩ := one_rd rds
          obtain ⟨a, us, rfl, hq, rx⟩ := itS_rd r1 rd h1
          cases intsD_eq h2
          cases rx.ints
          refine ⟨a, ns, rfl, hq, hb.1, fun b hb2 => ?_⟩
          refine ⟨b, _, _, rfl, upd_same, hb.2, fun ms c h4 h5 _ h6 => ?_⟩
          have e3 : ms = srtU ns := strict_ext h4 (srtU_lt ns) fun k => by rw [h5 k, decide_eq_true_eq, mem_srtU]
          subst e3
          have ex := ex_new0 (p := p1) (o := SetO X.w b (fun j => decide (j ∈ ns)) (srtU ns).length) hb2
          exact q1 p1 _ ex (r1.beside hb2) c _ h6 (RDs.of_ints _)
        · cases h3
      · cases hu
    · exact q1.elim
end DL
end
/-! ### DL21 -/
section
set_option linter.all false
set_option maxRecDepth 100000
set_option maxHeartbeats 4000000
/-! DL21: in, not in; any, all over what stands. -/
namespace DL
open PySem PySem.Spec L2
open PyProof.Rows hiding St
/-! ### in -/
def flatD : D → Bool
  | .non => true
  | .bl _ => true
  | .int _ => true
  | .str _ => true
  | _ => false
def eqF : D → D → Bool
  | .non, .non => true
  | .bl a, .bl b => a == b
  | .bl a, .int b => (if a then 1 else 0) == b
  | .int a, .bl b => a == (if b then 1 else 0)
  | .int a, .int b => a == b
  | .str a, .str b => a == b
  | _, _ => false
def inB (s : Sto) (d e : D) : Option Bool := match itS s e with
  | some ds => if (flatD d && ds.all flatD) = true then some (ds.any fun y => eqF y d) else (match d.py s, e.py s with
    | some z, some (.list zs) => if SeqAt.shaped z = true ∧ SeqAt.shaped (.list zs) = true then some (zs.any fun y => PyData.eqv y z) else none
    | _, _ => none)
  | none => match e with
    | .loc n => (kvsOf s n).bind fun kvs => (keyD d).map fun k => (dGet kvs k).isSome
    | _ => none
def gIn : G2 := fun d e s => (inB s d e).map fun b => (.bl b, s)
def gNotIn : G2 := fun d e s => (inB s d e).map fun b => (.bl (!b), s)
variable {K : PySem.W.Frag} {p : List Addr} {H : Hp} {s : Sto}
theorem flat_rd {d : D} {v : V} (r : RD K p H d v) (h : flatD d = true) : flatV v = true := by
  cases r <;> first | rfl | cases h
theorem flats_rd : ∀ {ds : List D} {vs : List V}, RDs K p H ds vs → ds.all flatD = true → vs.all flatV = true
  | _, _, .nil, _ => rfl
  | _, _, .cons r rs, h => by
    simp only [List.all_cons, Bool.and_eq_true] at h ⊢
    exact ⟨flat_rd r h.1, flats_rd rs h.2⟩
theorem eqF_rd {d e : D} {v u : V} (r : RD K p H d v) (q : RD K p H e u) (h1 : flatD d = true) (h2 : flatD e = true) : eqF d e = eqV v u := by
  cases r <;> first | (cases h1; done) | (cases q <;> first | (cases h2; done) | rfl)
theorem anyF_rd {e : D} {u : V} (q : RD K p H e u) (h2 : flatD e = true) : ∀ {ds : List D} {vs : List V}, RDs K p H ds vs → ds.all flatD = true → (ds.any fun y => eqF y e) = inV u vs
  | _, _, .nil, _ => rfl
  | _, _, .cons r rs, h => by
    simp only [List.all_cons, Bool.and_eq_true] at h
    simp only [inV, List.any_cons]
    rw [eqF_rd r q h.1 h2, anyF_rd q h2 rs h.2]
    rfl
theorem inB_rd {d e : D} {x y : V} {b : Bool} (hs : RS K p s H) (rx : RD K p H d x) (ry : RD K p H e y) (h : inB s d e = some b) :
    (∃ a us, y = .ref a ∧ (SqL K H a us ∨ SqT K H a us) ∧ flatV x = true ∧ us.all flatV = true ∧ b = inV x us) ∨
    (∃ z zs, Dp K H x z ∧ Dp K H y (.list zs) ∧ SeqAt.shaped z = true ∧ SeqAt.shaped (.list zs) = true ∧ b = zs.any fun w => PyData.eqv w z) ∨
    ∃ a o, y = .ref a ∧ DGet H a x o ∧ b = o.isSome := by
  unfold inB at h
  split at h
  · rename_i ds hds
    obtain ⟨a, us, rfl, hq, rr⟩ := itS_rd hs ry hds
    split at h
    · rename_i hf
      cases h
      simp only [Bool.and_eq_true] at hf
      exact .inl ⟨a, us, rfl, hq, flat_rd rx hf.1, flats_rd rr hf.2, anyF_rd rx hf.1 rr hf.2⟩
    · split at h
      · rename_i z zs h1 h2
        split at h
        · rename_i hh
          cases h
          exact .inr (.inl ⟨z, zs, py_dp hs rx h1, py_dp hs ry h2, hh.1, hh.2, rfl⟩)
        · cases h
      · cases h
  · split at h
    · rename_i n _
      simp only [Option.bind_eq_some_iff, Option.map_eq_some_iff] at h
      obtain ⟨kvs, h1, k, h2, rfl⟩ := h
      have e := keyD_rd rx h2
      subst e
      refine .inr (.inr ?_)
      have fin : ∀ {a : Addr} {us : List (Key × V)}, Rd H a (.dK us) → RF K p H kvs us → ∃ a o, V.ref a = .ref a ∧ DGet H a (kV k) o ∧ (dGet kvs k).isSome = o.isSome := fun {a us} hr rf => by
        refine ⟨a, _, rfl, .inl ⟨us, k, hr, rfl, rfl⟩, ?_⟩
        cases hg : dGet kvs k with
        | none => rw [dGet_none rf hg]; rfl
        | some z =>
          obtain ⟨v, hv, _⟩ := dGet_rd rf hg
          rw [hv]
          rfl
      unfold kvsOf at h1
      split at h1
      · rename_i kv2 hk
        cases h1
        obtain ⟨a, us, rfl, ha, rf, _⟩ := dct_rd hs ry hk
        have := fin (a := a) (.inl ha) rf
        refine ⟨a, _, rfl, .inl ⟨us, k, .inl ha, rfl, rfl⟩, ?_⟩
        cases hg : dGet kvs k with
        | none => rw [dGet_none rf hg]; rfl
        | some z =>
          obtain ⟨v, hv, _⟩ := dGet_rd rf hg
          rw [hv]
          rfl
      · rename_i kv2 hk
        cases h1
        obtain ⟨a, o, us, rfl, ha, rf, _⟩ := lok_rd hs ry hk
        refine ⟨a, _, rfl, .inl ⟨us, k, .inr ⟨o, ha⟩, rfl, rfl⟩, ?_⟩
        cases hg : dGet kvs k with
        | none => rw [dGet_none rf hg]; rfl
        | some z =>
          obtain ⟨v, hv, _⟩ := dGet_rd rf hg
          rw [hv]
          rfl
      · cases h1
    · cases h
theorem OpR.or3 {X : Cx} {f : Value → Value → Sem Value} {r1 r2 r3 : R2} (h1 : OpR X f r1) (h2 : OpR X f r2) (h3 : OpR X f r3) : OpR X f (fun x y H Q => r1 x y H Q ∨ r2 x y H Q ∨ r3 x y H Q) := by
  intro pins s σ H x y v u Q I rx ry h
  rcases h with h | h | h
  · exact h1 pins s σ H x y v u Q I rx ry h
  · exact h2 pins s σ H x y v u Q I rx ry h
  · exact h3 pins s σ H x y v u Q I rx ry h
variable {X : Cx}
theorem opr_in_dict (hu : X.A.units + 65 < cLine) : OpR X (compareOp .In) (fun x y H Q => ∃ a o, y = .ref a ∧ DGet H a x o ∧ Q (.bl o.isSome) H) := by
  intro pins s σ H x y v u Q I rx ry ⟨a, o, e, g, q⟩
  subst e
  cases ry
  exact d_in (by omega) I g rx fun s' I' => ⟨.bl _, H, I', rfl, q⟩
theorem opr_notin_dict (hu : X.A.units + 65 < cLine) : OpR X (compareOp .NotIn) (fun x y H Q => ∃ a o, y = .ref a ∧ DGet H a x o ∧ Q (.bl (!o.isSome)) H) := by
  intro pins s σ H x y v u Q I rx ry ⟨a, o, e, g, q⟩
  subst e
  cases ry
  exact d_notIn (by omega) I g rx fun s' I' => ⟨.bl _, H, I', rfl, q⟩
theorem op_inDD (hu : X.A.units + 65 < cLine) : OpD X (compareOp .In) gIn := OpR.imp (OpR.or3 op_in_seq (L2.op_inD hu) (opr_in_dict hu)) fun x y H Q ⟨p, s, d, e, z, s', hs, rx, ry, hg, hf⟩ => by
  simp only [gIn, Option.map_eq_some_iff] at hg
  obtain ⟨b, hb, hz⟩ := hg
  cases hz
  have q := hf.now hs (.bl b)
  rcases inB_rd hs rx ry hb with ⟨a, us, e, h1, h2, h3, h4⟩ | ⟨z, zs, h1, h2, h3, h4, h5⟩ | ⟨a, o, e, h1, h2⟩
  · exact .inl ⟨a, us, e, h1, h2, h3, by rw [if_neg (by decide), ← h4]; exact q⟩
  · exact .inr (.inl ⟨z, zs, h1, h2, h3, h4, by rw [← h5]; exact q⟩)
  · exact .inr (.inr ⟨a, o, e, h1, by rw [← h2]; exact q⟩)
theorem op_notinDD (hu : X.A.units + 65 < cLine) : OpD X (compareOp .NotIn) gNotIn := OpR.imp (OpR.or3 op_notIn_seq (L2.op_notInD hu) (opr_notin_dict hu)) fun x y H Q ⟨p, s, d, e, z, s', hs, rx, ry, hg, hf⟩ => by
  simp only [gNotIn, Option.map_eq_some_iff] at hg
  obtain ⟨b, hb, hz⟩ := hg
  cases hz
  have q := hf.now hs (.bl (!b))
  rcases inB_rd hs rx ry hb with ⟨a, us, e, h1, h2, h3, h4⟩ | ⟨z, zs, h1, h2, h3, h4, h5⟩ | ⟨a, o, e, h1, h2⟩
  · exact .inl ⟨a, us, e, h1, h2, h3, by rw [if_pos rfl, ← h4]; exact q⟩
  · exact .inr (.inl ⟨z, zs, h1, h2, h3, h4, by rw [← h5]; exact q⟩)
  · exact .inr (.inr ⟨a, o, e, h1, by rw [← h2]; exact q⟩)
theorem hu65_of {A : Around} {k : Nat} (hr : Room k A) : A.units + 65 < cLine := by
  have := hr.un
  omega
/-! ### any, all by truth -/
def truF : D → Option Bool
  | .non => some false
  | .bl b => some b
  | .int i => some (i != 0)
  | _ => none
def trusF : List D → Option (List Bool)
  | [] => some []
  | d :: ds => match truF d, trusF ds with
    | some b, some bs => some (b :: bs)
    | _, _ => none
def gAnyT (ds : List D) : Option D := (trusF ds).map fun bs => .bl (bs.any id)
def gAllT (ds : List D) : Option D := (trusF ds).map fun bs => .bl (bs.all id)
def toPy : D → PyData
  | .bl b => .bool b
  | .int i => .int i
  | _ => .none
theorem trusF_py : ∀ {ds : List D} {vs : List V} {bs : List Bool}, RDs K p H ds vs → trusF ds = some bs → DpAll K H vs (ds.map toPy) ∧ PyData.plainAll (ds.map toPy) = true ∧ (∀ x ∈ ds.map toPy, x.fits63) ∧ (ds.map toPy).map PyData.truthy = bs
  | _, _, _, .nil, h => by cases h; exact ⟨.nil, rfl, by simp, rfl⟩
  | d :: ds, v :: vs, bs, .cons r rs, h => by
    unfold trusF at h
    split at h
    · rename_i b bs' h1 h2
      cases h
      obtain ⟨a1, a2, a3, a4⟩ := trusF_py rs h2
      have one : Dp K H v (toPy d) ∧ PyData.plain (toPy d) = true ∧ (toPy d).fits63 ∧ (toPy d).truthy = b := by
        cases d with
        | non => cases r; cases h1; exact ⟨.non, rfl, trivial, rfl⟩
        | bl b => cases r; cases h1; exact ⟨.bl _, rfl, trivial, rfl⟩
        | int b => cases r; cases h1; exact ⟨.int _, rfl, trivial, rfl⟩
        | _ => cases h1
      refine ⟨.cons one.1 a1, ?_, ?_, ?_⟩
      · simp only [List.map_cons, PyData.plainAll, Bool.and_eq_true]
        exact ⟨one.2.1, a2⟩
      · intro x hx
        rcases List.mem_cons.mp hx with rfl | hx
        · exact one.2.2.1
        · exact a3 x hx
      · rw [List.map_cons, List.map_cons, one.2.2.2, a4]
    · cases h
theorem ca_anyT (hc : X.calm = true) : CallD X (.builtin "any") (gS gAnyT) := by
  intro pins s σ H vs us Q I r ⟨p, st, ds, z, s', hs, rds, hg, hf⟩
  unfold gS at hg
  split at hg
  · rename_i d
    simp only [Option.bind_eq_some_iff, Option.map_eq_some_iff, gAnyT] at hg
    obtain ⟨xs, h1, z2, ⟨bs, h2, h3⟩, h4⟩ := hg
    cases h4
    subst h3
    obtain ⟨v, rfl, rd⟩ := one_rd rds
    obtain ⟨a, ws, rfl, hq, rx⟩ := itS_rd hs rd h1
    obtain ⟨a1, a2, a3, a4⟩ := trusF_py rx h2
    have q := hf.now hs (.bl (bs.any id))
    rw [Vals.ref1 r]
    have fin : ∀ (g : Heap) (u : Nat), (∀ b o, s.heap.get? b = some o → g.get? b = some o) → ∃ v H', Inv X pins σ H' { s with heap := g, toks := u } ∧ RelV v (Value.bool ((xs.map toPy).any PyData.truthy)) ∧ Q v H' := fun g u k => by
      refine ⟨.bl (bs.any id), H, I.kept k, ?_, q⟩
      show Value.bool _ = Value.bool _
      rw [← a4, List.any_map, List.any_map, List.any_map]
      rfl
    rcases hq with hq | hq
    · obtain ⟨its, rv, pl, hz⟩ := I.list hq
      obtain ⟨as, ra⟩ := Dp.readsAll I _ ws its a1 rv
      exact PySem.W.any_list_data (I.ok.hd hc) pl.isList (by simpa using ra) a2 a3 fin
    · obtain ⟨its, rv, pl, hz⟩ := I.tuple hq
      obtain ⟨as, ra⟩ := Dp.readsAll I _ ws its a1 rv
      exact PySem.W.any_tuple_data (I.ok.hd hc) pl (by simpa using ra) a2 a3 fin
  · cases hg
theorem ca_allT (hc : X.calm = true) : CallD X (.builtin "all") (gS gAllT) := by
  intro pins s σ H vs us Q I r ⟨p, st, ds, z, s', hs, rds, hg, hf⟩
  unfold gS at hg
  split at hg
  · rename_i d
    simp only [Option.bind_eq_some_iff, Option.map_eq_some_iff, gAllT] at hg
    obtain ⟨xs, h1, z2, ⟨bs, h2, h3⟩, h4⟩ := hg
    cases h4
    subst h3
    obtain ⟨v, rfl, rd⟩ := one_rd rds
    obtain ⟨a, ws, rfl, hq, rx⟩ := itS_rd hs rd h1
    obtain ⟨a1, a2, a3, a4⟩ := trusF_py rx h2
    have q := hf.now hs (.bl (bs.all id))
    rw [Vals.ref1 r]
    have fin : ∀ (g : Heap) (u : Nat), (∀ b o, s.heap.get? b = some o → g.get? b = some o) → ∃ v H', Inv X pins σ H' { s with heap := g, toks := u } ∧ RelV v (Value.bool ((xs.map toPy).all PyData.truthy)) ∧ Q v H' := fun g u k => by
      refine ⟨.bl (bs.all id), H, I.kept k, ?_, q⟩
      show Value.bool _ = Value.bool _
      rw [← a4, List.all_map, List.all_map, List.all_map]
      rfl
    rcases hq with hq | hq
    · obtain ⟨its, rv, pl, hz⟩ := I.list hq
      obtain ⟨as, ra⟩ := Dp.readsAll I _ ws its a1 rv
      exact PySem.W.all_list_data (I.ok.hd hc) pl.isList (by simpa using ra) a2 a3 fin
    · obtain ⟨its, rv, pl, hz⟩ := I.tuple hq
      obtain ⟨as, ra⟩ := Dp.readsAll I _ ws its a1 rv
      exact PySem.W.all_tuple_data (I.ok.hd hc) pl (by simpa using ra) a2 a3 fin
  · cases hg
end DL
end
/-! ### LibM -/
section
set_option linter.all false
set_option maxRecDepth 100000
set_option maxHeartbeats 4000000
namespace DL
open PySem PySem.Spec L2
open PyProof.Rows hiding St
noncomputable def l_law_hand (A : Str → Addr) (ns : List Int) : MF := mDef 3 1 (mSeq (mAsg (mNew (mLc (mI_scr ns) (mgName 2) mYes (mCallB gAbs (mCons (mCallB gInt (mCons (mVar 2) mNil)) mNil)) [2])) (mgName 1)) (mRet (mNew (mLst (mCons (mVar 1) (mCons (mC (.int 0)) (mCons (mC (.int 0)) (mCons (mBin gAdd (mC (.int 1)) (mCallB gLen (mCons (mVar 1) mNil))) (mCons (mC (.int 0)) mNil)))))))))
noncomputable def l_law_draw (A : Str → Addr) : MF := mDef 5 2 (mSeq (mIf (mAnd (asB (mBin gEq (mBin gIx (mVar 0) (mC (.int 2))) (mC (.int 0)))) (asB (mBin gLt (mBin gIx (mVar 0) (mC (.int 1))) (mCallB gLen (mCons (mBin gIx (mVar 0) (mC (.int 0))) mNil))))) (mSeq (mAsg (mBin gIx (mBin gIx (mVar 0) (mC (.int 0))) (mBin gIx (mVar 0) (mC (.int 1)))) (mgName 2)) (mSeq (mSetIx (mBin gAdd (mBin gIx (mVar 0) (mC (.int 1))) (mC (.int 1))) (mVar 0) (mC (.int 1))) (mSeq (mSetIx (mBin gMod (mCallB gInt (mCons (mBin gAdd (mBin gAdd (mBin gMul (mBin gIx (mVar 0) (mC (.int 3))) (mC (.int 69621))) (mVar 2)) (mC (.int 11))) mNil)) (mC (.int 2147483629))) (mVar 0) (mC (.int 3))) (mIf (asB (mBin gGe (mVar 2) (mBin gPow (mC (.int 10)) (mC (.int 18))))) (mSetIx (mVar 2) (mVar 0) (mC (.int 2))) mNext)))) mNext) (mSeq (mIf (asB (mBin gGt (mBin gIx (mVar 0) (mC (.int 2))) (mC (.int 0)))) (mSeq (mAsg (mBin gMod (mCallB gInt (mCons (mBin gIx (mVar 0) (mC (.int 2))) mNil)) (mVar 1)) (mgName 3)) (mSeq (mSetIx (mBin gFdiv (mBin gIx (mVar 0) (mC (.int 2))) (mVar 1)) (mVar 0) (mC (.int 2))) (mRet (mVar 3)))) mNext) (mSeq (mSetIx (mBin gAdd (mBin gIx (mVar 0) (mC (.int 4))) (mC (.int 1))) (mVar 0) (mC (.int 4))) (mSeq (mAsg (mBin gMod (mCallB gInt (mCons (mBin gMul (mCallB gInt (mCons (mBin gAdd (mBin gIx (mVar 0) (mC (.int 3))) (mBin gMul (mC (.int 7919)) (mBin gIx (mVar 0) (mC (.int 4))))) mNil)) (mC (.int 48271))) mNil)) (mC (.int 2147483647))) (mgName 4)) (mSeq (mAsg (mBin gMod (mCallB gInt (mCons (mBin gMul (mVar 4) (mBin gAdd (mBin gFdiv (mVar 4) (mC (.int 1009))) (mC (.int 69621)))) mNil)) (mC (.int 2147483647))) (mgName 4)) (mSeq (mAsg (mBin gMod (mCallB gInt (mCons (mBin gMul (mVar 4) (mBin gAdd (mBin gFdiv (mVar 4) (mC (.int 2003))) (mC (.int 40692)))) mNil)) (mC (.int 2147483399))) (mgName 4)) (mRet (mBin gMod (mCallB gInt (mCons (mBin gFdiv (mVar 4) (mC (.int 16))) mNil)) (mVar 1)))))))))
noncomputable def l_law_any (A : Str → Addr) : MF := mDef 2 2 (mRet (mBin gIx (mVar 1) (mCall (l_law_draw A) (mCons (mVar 0) (mCons (mCallB gLen (mCons (mVar 1) mNil)) mNil)))))
noncomputable def l_law_prime (A : Str → Addr) : MF := mDef 1 1 (mRet (mCall (l_law_any A) (mCons (mVar 0) (mCons (mNew (mLst (mCons (mC (.int 2)) (mCons (mC (.int 2)) (mCons (mC (.int 2)) (mCons (mC (.int 3)) (mCons (mC (.int 3)) (mCons (mC (.int 3)) (mCons (mC (.int 5)) (mCons (mC (.int 5)) (mCons (mC (.int 7)) (mCons (mC (.int 11)) (mCons (mC (.int 13)) (mCons (mC (.int 31)) (mCons (mC (.int 97)) (mCons (mC (.int 251)) mNil)))))))))))))))) mNil))))
noncomputable def l_law_mixed (A : Str → Addr) : MF := mDef 10 3 (mSeq (mAsg (mBin gMul (mNew (mLst (mCons (mC (.int 0)) mNil))) (mCallB gLen (mCons (mBin gIx (mVar 2) (mC (.int 0))) mNil))) (mgName 3)) (mSeq (mFor (mRg1 (mBin gAdd (mC (.int 1)) (mCall (l_law_draw A) (mCons (mVar 0) (mCons (mC (.int 3)) mNil))))) (mgName 4) (mSeq (mAsg (mTup (mCons (mCall (l_law_any A) (mCons (mVar 0) (mCons (mVar 2) mNil))) (mCons (mBin gAdd (mC (.int 1)) (mCall (l_law_draw A) (mCons (mVar 0) (mCons (mBin gSub (mVar 1) (mC (.int 1))) mNil)))) mNil))) (mgTup 2 (mgCons (mgName 5) (mgCons (mgName 6) mgNil)))) (mAsg (mNew (mLc (mZip (mVar 3) (mVar 5)) (mgTup 2 (mgCons (mgName 7) (mgCons (mgName 8) mgNil))) mYes (mBin gMod (mCallB gInt (mCons (mBin gAdd (mVar 7) (mBin gMul (mVar 6) (mVar 8))) mNil)) (mVar 1)) [7, 8])) (mgName 3)))) (mRet (mIfE (asB (mCallF gAny (mLc (mIt (mVar 3)) (mgName 9) mYes (mBin gNe (mVar 9) (mC (.int 0))) [9]))) (mCallB (gS (fun ds => some (.tup ds))) (mCons (mVar 3) mNil)) (mC .non)))))
noncomputable def l_law_sum (A : Str → Addr) : MF := mDef 7 3 (mSeq (mAsg (mCall (l_law_draw A) (mCons (mVar 0) (mCons (mC (.int 4)) mNil))) (mgName 3)) (mSeq (mAsg (mNew (mLc (mRg1 (mVar 2)) (mgName 5) mYes (mIfE (mOr (asB (mBin gLt (mVar 3) (mC (.int 2)))) (asB (mBin gEq (mCall (l_law_draw A) (mCons (mVar 0) (mCons (mC (.int 3)) mNil))) (mC (.int 0))))) (mCall (l_law_draw A) (mCons (mVar 0) (mCons (mVar 1) mNil))) (mC (.int 0))) [5])) (mgName 4)) (mSeq (mIf (mOr (asB (mBin gEq (mVar 3) (mC (.int 3)))) (mNot (asB (mCallF gAny (mLc (mIt (mVar 4)) (mgName 6) mYes (mBin gNe (mVar 6) (mC (.int 0))) [6]))))) (mSeq (mAsg (mBin gMul (mNew (mLst (mCons (mC (.int 0)) mNil))) (mVar 2)) (mgName 4)) (mSetIx (mBin gAdd (mC (.int 1)) (mCall (l_law_draw A) (mCons (mVar 0) (mCons (mBin gSub (mVar 1) (mC (.int 1))) mNil)))) (mVar 4) (mCall (l_law_draw A) (mCons (mVar 0) (mCons (mVar 2) mNil))))) mNext) (mRet (mCallB (gS (fun ds => some (.tup ds))) (mCons (mVar 4) mNil))))))
noncomputable def l_law_sums (A : Str → Addr) : MF := mDef 7 4 (mSeq (mAsg (mNew (mLst mNil)) (mgName 4)) (mSeq (mFor (mRg1 (mCall (l_law_draw A) (mCons (mVar 0) (mCons (mBin gAdd (mVar 3) (mC (.int 1))) mNil)))) (mgName 5) (mSeq (mAsg (mIfE (mAnd (asB (mBin gGt (mCallB gLen (mCons (mVar 4) mNil)) (mC (.int 0)))) (asB (mBin gEq (mCall (l_law_draw A) (mCons (mVar 0) (mCons (mC (.int 2)) mNil))) (mC (.int 0))))) (mCall (l_law_mixed A) (mCons (mVar 0) (mCons (mVar 1) (mCons (mVar 4) mNil)))) (mC .non)) (mgName 6)) (mDrop (mMB gAppend (mVar 4) (mCons (mIfE (asB (mBin gIs (mVar 6) (mC .non))) (mCall (l_law_sum A) (mCons (mVar 0) (mCons (mVar 1) (mCons (mVar 2) mNil)))) (mVar 6)) mNil))))) (mRet (mCallB (gS (fun ds => some (.tup ds))) (mCons (mVar 4) mNil)))))
noncomputable def l_is_integer (A : Str → Addr) : MF := mDef 1 1 (mRet (mIfE (asB (mCallB gIsi (mCons (mVar 0) (mCons (mC (.con (.ty "int"))) mNil)))) (ofB (mNot (asB (mCallB gIsi (mCons (mVar 0) (mCons (mC (.con (.ty "bool"))) mNil)))))) (mC (.bl false))))
noncomputable def l_is_within (A : Str → Addr) : MF := mDef 3 3 (mRet (mIfE (asB (mCall (l_is_integer A) (mCons (mVar 0) mNil))) (mChain gLe gLe (mVar 1) (mVar 0) (mVar 2)) (mC (.bl false))))
noncomputable def l_is_prime (A : Str → Addr) : MF := mDef 2 1 (mSeq (mIf (mNot (asT (mCall (l_is_within A) (mCons (mVar 0) (mCons (mC (.int 2)) (mCons (mC (.int 251)) mNil)))))) (mRet (mC (.bl false))) mNext) (mRet (mCallF gAll (mLc (mRg2 (mC (.int 2)) (mVar 0)) (mgName 1) mYes (mBin gNe (mBin gMod (mVar 0) (mVar 1)) (mC (.int 0))) [1]))))
noncomputable def l_check_prime (A : Str → Addr) : MF := mDef 1 1 (mIf (mNot (asT (mCall (l_is_prime A) (mCons (mVar 0) mNil)))) mNever mNext)
noncomputable def l_is_sum (A : Str → Addr) : MF := mDef 3 2 (mSeq (mIf (mOr (mNot (asB (mCallB gIsi (mCons (mVar 1) (mCons (mC (.con (.ty "tuple"))) mNil))))) (mNot (asB (mChain gLe gLe (mC (.int 1)) (mCallB gLen (mCons (mVar 1) mNil)) (mC (.int 10)))))) (mRet (mC (.bl false))) mNext) (mRet (mIfE (asB (mCallF gAll (mLc (mIt (mVar 1)) (mgName 2) mYes (mCall (l_is_within A) (mCons (mVar 2) (mCons (mC (.int 0)) (mCons (mBin gSub (mVar 0) (mC (.int 1))) mNil)))) [2]))) (mCallF gAny (mLc (mIt (mVar 1)) (mgName 2) mYes (mBin gNe (mVar 2) (mC (.int 0))) [2])) (mC (.bl false)))))
noncomputable def l_are_sums (A : Str → Addr) : MF := mDef 3 2 (mSeq (mIf (mOr (mNot (asB (mCallB gIsi (mCons (mVar 1) (mCons (mC (.con (.ty "tuple"))) mNil))))) (mOr (asB (mBin gGt (mCallB gLen (mCons (mVar 1) mNil)) (mC (.int 40)))) (mNot (asB (mCallF gAll (mLc (mIt (mVar 1)) (mgName 2) mYes (mCall (l_is_sum A) (mCons (mVar 0) (mCons (mVar 2) mNil))) [2])))))) (mRet (mC (.bl false))) mNext) (mRet (mCallF gAll (mLc (mIt (mVar 1)) (mgName 2) mYes (mBin gEq (mCallB gLen (mCons (mVar 2) mNil)) (mCallB gLen (mCons (mBin gIx (mVar 1) (mC (.int 0))) mNil))) [2]))))
noncomputable def l_check_sums (A : Str → Addr) : MF := mDef 2 2 (mSeq (mDrop (mCall (l_check_prime A) (mCons (mVar 0) mNil))) (mIf (mNot (asT (mCall (l_are_sums A) (mCons (mVar 0) (mCons (mVar 1) mNil))))) mNever mNext))
noncomputable def l_check_sum (A : Str → Addr) : MF := mDef 3 3 (mIf (mOr (mNot (asT (mCall (l_is_sum A) (mCons (mVar 0) (mCons (mVar 2) mNil))))) (mAnd (asB (mBin gGt (mCallB gLen (mCons (mVar 1) mNil)) (mC (.int 0)))) (asB (mBin gNe (mCallB gLen (mCons (mVar 2) mNil)) (mCallB gLen (mCons (mBin gIx (mVar 1) (mC (.int 0))) mNil)))))) mNever mNext)
noncomputable def l_Steps_init (A : Str → Addr) : MF := mDef 2 2 (mSeq (mSetFld [A "Steps"] "kept_prime" (mVar 0) (mVar 1)) (mSetFld [A "Steps"] "kept_rows" (mVar 0) (mNewD (fun _ s => .ok [] s))))
noncomputable def l_less_times (A : Str → Addr) : MF := mDef 6 4 (mRet (mNew (mLc (mZip (mVar 1) (mVar 3)) (mgTup 2 (mgCons (mgName 4) (mgCons (mgName 5) mgNil))) mYes (mBin gMod (mBin gSub (mVar 4) (mBin gMul (mVar 2) (mVar 5))) (mVar 0)) [4, 5])))
noncomputable def l_Steps_fallen (A : Str → Addr) : MF := mDef 8 3 (mSeq (mPar 1 2 (mCons (mNew (mCallL gList (mCons (mVar 1) mNil))) (mCons (mNewD (mDictOf (mVar 2))) mNil))) (mSeq (mFor (mIt (mNew (mCallL gSrt (mCons (mFld [A "Steps"] "kept_rows" (mVar 0)) mNil)))) (mgName 3) (mIf (asB (mBin gNe (mBin gIx (mVar 1) (mVar 3)) (mC (.int 0)))) (mSeq (mAsg (mBin gIx (mVar 1) (mVar 3)) (mgName 4)) (mSeq (mAsg (mBin gIx (mFld [A "Steps"] "kept_rows" (mVar 0)) (mVar 3)) (mgTup 2 (mgCons (mgName 5) (mgCons (mgName 6) mgNil)))) (mSeq (mAsg (mCall (l_less_times A) (mCons (mFld [A "Steps"] "kept_prime" (mVar 0)) (mCons (mVar 1) (mCons (mVar 4) (mCons (mVar 5) mNil))))) (mgName 1)) (mLockS (mVar 6) (mFor (mKeys (mVar 6)) (mgName 7) (mSetIx (mBin gMod (mBin gSub (mGet2 (mVar 2) (mVar 7) (mC (.int 0))) (mBin gMul (mVar 4) (mBin gIx (mVar 6) (mVar 7)))) (mFld [A "Steps"] "kept_prime" (mVar 0))) (mVar 2) (mVar 7))))))) mNext)) (mRet (mTup (mCons (mVar 1) (mCons (mVar 2) mNil))))))
noncomputable def l_first_place (A : Str → Addr) : MF := mDef 4 1 (mSeq (mAsg (mNew (mLc (mEnum (mVar 0)) (mgTup 2 (mgCons (mgName 2) (mgCons (mgName 3) mgNil))) (asB (mBin gNe (mVar 3) (mC (.int 0)))) (mVar 2) [2, 3])) (mgName 1)) (mRet (mIfE (asB (mBin gGt (mCallB gLen (mCons (mVar 1) mNil)) (mC (.int 0)))) (mBin gIx (mVar 1) (mC (.int 0))) (mC .non))))
noncomputable def l_inverse (A : Str → Addr) : MF := mDef 3 2 (mRet (mBin gIx (mNew (mLc (mRg2 (mC (.int 1)) (mVar 0)) (mgName 2) (asB (mBin gEq (mBin gMod (mBin gMul (mVar 2) (mVar 1)) (mVar 0)) (mC (.int 1)))) (mVar 2) [2])) (mC (.int 0))))
noncomputable def l_Steps_cleared (A : Str → Addr) : MF := mDef 9 5 (mSeq (mPar 5 6 (mCons (mBin gIx (mVar 1) (mC (.int 0))) (mCons (mNewD (mDictOf (mBin gIx (mVar 1) (mC (.int 1))))) mNil))) (mSeq (mAsg (mBin gIx (mVar 5) (mVar 2)) (mgName 7)) (mSeq (mLockS (mVar 4) (mFor (mKeys (mVar 4)) (mgName 8) (mSetIx (mBin gMod (mBin gSub (mGet2 (mVar 6) (mVar 8) (mC (.int 0))) (mBin gMul (mVar 7) (mBin gIx (mVar 4) (mVar 8)))) (mFld [A "Steps"] "kept_prime" (mVar 0))) (mVar 6) (mVar 8)))) (mRet (mTup (mCons (mCall (l_less_times A) (mCons (mFld [A "Steps"] "kept_prime" (mVar 0)) (mCons (mVar 5) (mCons (mVar 7) (mCons (mVar 3) mNil))))) (mCons (mVar 6) mNil)))))))
noncomputable def l_Steps_take (A : Str → Addr) : MF := mDef 11 3 (mSeq (mAsg (mMeth (A "Steps") "fallen" (l_Steps_fallen A) (mVar 0) (mCons (mVar 2) (mCons (mNewD (mDisp [((mVar 1), (mC (.int 1)))])) mNil))) (mgTup 2 (mgCons (mgName 3) (mgCons (mgName 4) mgNil)))) (mSeq (mAsg (mCall (l_first_place A) (mCons (mVar 3) mNil)) (mgName 5)) (mSeq (mIf (asB (mBin gIs (mVar 5) (mC .non))) (mRet (mC (.bl false))) mNext) (mSeq (mAsg (mCall (l_inverse A) (mCons (mFld [A "Steps"] "kept_prime" (mVar 0)) (mCons (mBin gIx (mVar 3) (mVar 5)) mNil))) (mgName 6)) (mSeq (mAsg (mNew (mLc (mIt (mVar 3)) (mgName 9) mYes (mBin gMod (mBin gMul (mVar 9) (mVar 6)) (mFld [A "Steps"] "kept_prime" (mVar 0))) [9])) (mgName 3)) (mSeq (mAsg (mNewD (mLock (mVar 4) (mDc (mKeys (mVar 4)) (mgName 10) mYes (mVar 10) (mBin gMod (mBin gMul (mBin gIx (mVar 4) (mVar 10)) (mVar 6)) (mFld [A "Steps"] "kept_prime" (mVar 0))) [10]))) (mgName 4)) (mSeq (mAsg (mNewD (mDisp [((mVar 5), (mTup (mCons (mVar 3) (mCons (mVar 4) mNil))))])) (mgName 7)) (mSeq (mLockS (mFld [A "Steps"] "kept_rows" (mVar 0)) (mFor (mKeys (mFld [A "Steps"] "kept_rows" (mVar 0))) (mgName 8) (mSetIx (mMeth (A "Steps") "cleared" (l_Steps_cleared A) (mVar 0) (mCons (mBin gIx (mFld [A "Steps"] "kept_rows" (mVar 0)) (mVar 8)) (mCons (mVar 5) (mCons (mVar 3) (mCons (mVar 4) mNil))))) (mVar 7) (mVar 8)))) (mSeq (mSetFld [A "Steps"] "kept_rows" (mVar 0) (mVar 7)) (mRet (mC (.bl true))))))))))))
noncomputable def l_steps_of (A : Str → Addr) : MF := mDef 5 2 (mSeq (mAsg (mMake (A "Steps") (l_Steps_init A) (mCons (mVar 0) mNil)) (mgName 2)) (mSeq (mFor (mEnum (mVar 1)) (mgTup 2 (mgCons (mgName 3) (mgCons (mgName 4) mgNil))) (mDrop (mMeth (A "Steps") "take" (l_Steps_take A) (mVar 2) (mCons (mVar 3) (mCons (mVar 4) mNil))))) (mRet (mVar 2))))
noncomputable def l_Steps_made_by (A : Str → Addr) : MF := mDef 5 2 (mSeq (mAsg (mMeth (A "Steps") "fallen" (l_Steps_fallen A) (mVar 0) (mCons (mVar 1) (mCons (mNewD (fun _ s => .ok [] s)) mNil))) (mgTup 2 (mgCons (mgName 2) (mgCons (mgName 3) mgNil)))) (mSeq (mIf (asB (mBin gIsNot (mCall (l_first_place A) (mCons (mVar 2) mNil)) (mC .non))) (mRet (mC .non)) mNext) (mRet (mNewD (mLock (mVar 3) (mDc (mKeys (mVar 3)) (mgName 4) (asB (mBin gNe (mBin gIx (mVar 3) (mVar 4)) (mC (.int 0)))) (mVar 4) (mBin gMod (mNeg (mBin gIx (mVar 3) (mVar 4))) (mFld [A "Steps"] "kept_prime" (mVar 0))) [4]))))))
noncomputable def l_made_of (A : Str → Addr) : MF := mDef 5 3 (mSeq (mDrop (mCall (l_check_sums A) (mCons (mVar 0) (mCons (mVar 1) mNil)))) (mSeq (mDrop (mCall (l_check_sum A) (mCons (mVar 0) (mCons (mVar 1) (mCons (mVar 2) mNil))))) (mSeq (mIf (asB (mBin gEq (mCallB gLen (mCons (mVar 1) mNil)) (mC (.int 0)))) (mRet (mC .non)) mNext) (mSeq (mAsg (mMeth (A "Steps") "made_by" (l_Steps_made_by A) (mCall (l_steps_of A) (mCons (mVar 0) (mCons (mVar 1) mNil))) (mCons (mVar 2) mNil)) (mgName 3)) (mRet (mIfE (asB (mBin gIs (mVar 3) (mC .non))) (mC .non) (mCallF (fun ds => some (.tup ds)) (mLc (mRg1 (mCallB gLen (mCons (mVar 1) mNil))) (mgName 4) mYes (mGet2 (mVar 3) (mVar 4) (mC (.int 0))) [4]))))))))
noncomputable def l_law_times (A : Str → Addr) : MF := mDef 6 4 (mRet (mNew (mLc (mZip (mVar 1) (mVar 3)) (mgTup 2 (mgCons (mgName 4) (mgCons (mgName 5) mgNil))) mYes (mBin gMod (mCallB gInt (mCons (mBin gAdd (mVar 4) (mBin gMul (mVar 2) (mVar 5))) mNil)) (mVar 0)) [4, 5])))
noncomputable def l_law_fallen (A : Str → Addr) : MF := mDef 5 3 (mSeq (mAsg (mNew (mCallL gList (mCons (mVar 2) mNil))) (mgName 2)) (mSeq (mFor (mIt (mNew (mCallL gSrt (mCons (mVar 1) mNil)))) (mgTup 2 (mgCons (mgName 3) (mgCons (mgName 4) mgNil))) (mIf (asB (mBin gNe (mBin gIx (mVar 2) (mVar 3)) (mC (.int 0)))) (mAsg (mCall (l_law_times A) (mCons (mVar 0) (mCons (mVar 2) (mCons (mBin gSub (mVar 0) (mBin gIx (mVar 2) (mVar 3))) (mCons (mVar 4) mNil))))) (mgName 2)) mNext)) (mRet (mVar 2))))
noncomputable def l_law_inverse (A : Str → Addr) : MF := mDef 3 2 (mRet (mBin gIx (mNew (mLc (mRg2 (mC (.int 1)) (mVar 0)) (mgName 2) (asB (mBin gEq (mBin gMod (mCallB gInt (mCons (mBin gMul (mVar 2) (mVar 1)) mNil)) (mVar 0)) (mC (.int 1)))) (mVar 2) [2])) (mC (.int 0))))
noncomputable def l_law_taken (A : Str → Addr) : MF := mDef 11 2 (mSeq (mPar 2 3 (mCons (mNew (mLst mNil)) (mCons (mNew (mLst mNil)) mNil))) (mSeq (mFor (mEnum (mVar 1)) (mgTup 2 (mgCons (mgName 4) (mgCons (mgName 5) mgNil))) (mSeq (mAsg (mCall (l_law_fallen A) (mCons (mVar 0) (mCons (mVar 3) (mCons (mVar 5) mNil)))) (mgName 6)) (mSeq (mAsg (mNew (mLc (mEnum (mVar 6)) (mgTup 2 (mgCons (mgName 9) (mgCons (mgName 10) mgNil))) (asB (mBin gNe (mVar 10) (mC (.int 0)))) (mVar 9) [9, 10])) (mgName 7)) (mIf (asB (mBin gGt (mCallB gLen (mCons (mVar 7) mNil)) (mC (.int 0)))) (mSeq (mAsg (mCall (l_law_inverse A) (mCons (mVar 0) (mCons (mBin gIx (mVar 6) (mBin gIx (mVar 7) (mC (.int 0)))) mNil))) (mgName 8)) (mSeq (mDrop (mMB gAppend (mVar 3) (mCons (mTup (mCons (mBin gIx (mVar 7) (mC (.int 0))) (mCons (mNew (mLc (mIt (mVar 6)) (mgName 10) mYes (mBin gMod (mCallB gInt (mCons (mBin gMul (mVar 8) (mVar 10)) mNil)) (mVar 0)) [10])) mNil))) mNil))) (mDrop (mMB gAppend (mVar 2) (mCons (mVar 4) mNil))))) mNext)))) (mRet (mTup (mCons (mVar 2) (mCons (mVar 3) mNil))))))
noncomputable def l_law_made (A : Str → Addr) : MF := mDef 14 3 (mSeq (mAsg (mBin gIx (mCall (l_law_taken A) (mCons (mVar 0) (mCons (mVar 1) mNil))) (mC (.int 0))) (mgName 3)) (mSeq (mAsg (mNew (mLst mNil)) (mgName 4)) (mSeq (mFor (mRg1 (mCallB gLen (mCons (mVar 2) mNil))) (mgName 5) (mDrop (mMB gAppend (mVar 4) (mCons (mBin gAdd (mNew (mLc (mIt (mVar 3)) (mgName 10) mYes (mBin gIx (mBin gIx (mVar 1) (mVar 10)) (mVar 5)) [10])) (mNew (mLst (mCons (mBin gIx (mVar 2) (mVar 5)) mNil)))) mNil)))) (mSeq (mAsg (mC (.int 0)) (mgName 6)) (mSeq (mFor (mRg1 (mCallB gLen (mCons (mVar 3) mNil))) (mgName 7) (mSeq (mAsg (mBin gIx (mNew (mLc (mRg2 (mVar 6) (mCallB gLen (mCons (mVar 4) mNil))) (mgName 10) (asB (mBin gNe (mBin gIx (mBin gIx (mVar 4) (mVar 10)) (mVar 7)) (mC (.int 0)))) (mVar 10) [10])) (mC (.int 0))) (mgName 8)) (mSeq (mSwap (mCons (mBin gIx (mVar 4) (mVar 8)) (mCons (mBin gIx (mVar 4) (mVar 6)) mNil)) (mVar 4) (mVar 6) (mVar 4) (mVar 8)) (mSeq (mAsg (mCall (l_law_inverse A) (mCons (mVar 0) (mCons (mBin gIx (mBin gIx (mVar 4) (mVar 6)) (mVar 7)) mNil))) (mgName 9)) (mSeq (mSetIx (mNew (mLc (mIt (mBin gIx (mVar 4) (mVar 6))) (mgName 12) mYes (mBin gMod (mCallB gInt (mCons (mBin gMul (mVar 9) (mVar 12)) mNil)) (mVar 0)) [12])) (mVar 4) (mVar 6)) (mSeq (mFor (mRg1 (mCallB gLen (mCons (mVar 4) mNil))) (mgName 10) (mIf (mAnd (asB (mBin gNe (mVar 10) (mVar 6))) (asB (mBin gNe (mBin gIx (mBin gIx (mVar 4) (mVar 10)) (mVar 7)) (mC (.int 0))))) (mSetIx (mCall (l_law_times A) (mCons (mVar 0) (mCons (mBin gIx (mVar 4) (mVar 10)) (mCons (mBin gSub (mVar 0) (mBin gIx (mBin gIx (mVar 4) (mVar 10)) (mVar 7))) (mCons (mBin gIx (mVar 4) (mVar 6)) mNil))))) (mVar 4) (mVar 10)) mNext)) (mAsg (mBin gAdd (mVar 6) (mC (.int 1))) (mgName 6)))))))) (mSeq (mIf (asB (mCallF gAny (mLc (mIt (mSl (mVar 4) (some (mVar 6)) none)) (mgName 13) mYes (mBin gNe (mBin gIx (mVar 13) (mNeg (mC (.int 1)))) (mC (.int 0))) [13]))) (mRet (mC .non)) mNext) (mSeq (mAsg (mBin gMul (mNew (mLst (mCons (mC (.int 0)) mNil))) (mCallB gLen (mCons (mVar 1) mNil))) (mgName 11)) (mSeq (mFor (mEnum (mVar 3)) (mgTup 2 (mgCons (mgName 7) (mgCons (mgName 10) mgNil))) (mSetIx (mBin gIx (mBin gIx (mVar 4) (mVar 7)) (mNeg (mC (.int 1)))) (mVar 11) (mVar 10))) (mRet (mCallB (gS (fun ds => some (.tup ds))) (mCons (mVar 11) mNil)))))))))))
noncomputable def l_added (A : Str → Addr) : MF := mDef 9 4 (mSeq (mAsg (mBin gMul (mNew (mLst (mCons (mC (.int 0)) mNil))) (mVar 3)) (mgName 4)) (mSeq (mFor (mZip (mVar 1) (mVar 2)) (mgTup 2 (mgCons (mgName 5) (mgCons (mgName 6) mgNil))) (mAsg (mNew (mLc (mZip (mVar 4) (mVar 5)) (mgTup 2 (mgCons (mgName 7) (mgCons (mgName 8) mgNil))) mYes (mBin gMod (mBin gAdd (mVar 7) (mBin gMul (mVar 6) (mVar 8))) (mVar 0)) [7, 8])) (mgName 4))) (mRet (mCallB (gS (fun ds => some (.tup ds))) (mCons (mVar 4) mNil)))))
noncomputable def l_is_made (A : Str → Addr) : MF := mDef 5 4 (mSeq (mDrop (mCall (l_check_sums A) (mCons (mVar 0) (mCons (mVar 1) mNil)))) (mSeq (mDrop (mCall (l_check_sum A) (mCons (mVar 0) (mCons (mVar 1) (mCons (mVar 2) mNil))))) (mSeq (mIf (mOr (mNot (asB (mCallB gIsi (mCons (mVar 3) (mCons (mC (.con (.ty "tuple"))) mNil))))) (asB (mBin gNe (mCallB gLen (mCons (mVar 3) mNil)) (mCallB gLen (mCons (mVar 1) mNil))))) (mRet (mC (.bl false))) mNext) (mSeq (mIf (mNot (asB (mCallF gAll (mLc (mIt (mVar 3)) (mgName 4) mYes (mCall (l_is_within A) (mCons (mVar 4) (mCons (mC (.int 0)) (mCons (mBin gSub (mVar 0) (mC (.int 1))) mNil)))) [4])))) (mRet (mC (.bl false))) mNext) (mRet (mBin gEq (mCall (l_added A) (mCons (mVar 0) (mCons (mVar 1) (mCons (mVar 3) (mCons (mCallB gLen (mCons (mVar 2) mNil)) mNil))))) (mVar 2)))))))
noncomputable def l_law_deep (A : Str → Addr) : MF := mDef 3 1 (mSeq (mAsg (mCall (l_law_any A) (mCons (mVar 0) (mCons (mNew (mLst (mCons (mC (.int 0)) (mCons (mTup mNil) (mCons (mC (.str "a")) mNil))))) mNil))) (mgName 1)) (mSeq (mFor (mRg1 (mBin gAdd (mC (.int 18)) (mCall (l_law_draw A) (mCons (mVar 0) (mCons (mC (.int 12)) mNil))))) (mgName 2) (mAsg (mIfE (asB (mBin gGt (mCall (l_law_draw A) (mCons (mVar 0) (mCons (mC (.int 3)) mNil))) (mC (.int 0)))) (mTup (mCons (mVar 1) mNil)) (mNew (mLst (mCons (mVar 1) mNil)))) (mgName 1))) (mRet (mVar 1))))
noncomputable def l_law_odd (A : Str → Addr) : MF := mDef 3 2 (mSeq (mAsg (mNew (mLst (mCons (mC .non) (mCons (mC (.bl true)) (mCons (mC (.bl false)) (mCons (mNeg (mC (.int 1))) (mCons (mC (.int 13)) (mCons (mC (.int 252)) (mCons (mBin gPow (mC (.int 10)) (mC (.int 59))) (mCons (mC (.str "0")) (mCons (mC (.str "")) (mCons (mTup mNil) (mCons (mNew (mLst mNil)) (mCons (mNewD (fun _ s => .ok [] s)) (mCons (mTup (mCons (mC (.int 0)) mNil)) (mCons (mNew (mLst (mCons (mC (.int 0)) mNil))) (mCons (mTup (mCons (mC (.bl true)) mNil)) (mCons (mTup (mCons (mC (.str "0")) mNil)) (mCons (mTup (mCons (mC .non) (mCons (mC (.int 0)) mNil))) mNil))))))))))))))))))) (mgName 2)) (mRet (mCall (l_law_any A) (mCons (mVar 0) (mCons (mBin gAdd (mVar 2) (mNew (mLst (mCons (mNewD (mDisp [((mC (.int 0)), (mC (.int 0)))])) (mCons (mVar 1) (mCons (mCall (l_law_deep A) (mCons (mVar 0) mNil)) mNil)))))) mNil)))))
noncomputable def l_law_bent (A : Str → Addr) : MF := mDef 11 4 (mSeq (mIf (asB (mBin gEq (mCallB gLen (mCons (mVar 3) mNil)) (mC (.int 0)))) (mRet (mCall (l_law_odd A) (mCons (mVar 0) (mCons (mC .non) mNil)))) mNext) (mSeq (mPar 4 5 (mCons (mCall (l_law_draw A) (mCons (mVar 0) (mCons (mCallB gLen (mCons (mVar 3) mNil)) mNil))) (mCons (mCall (l_law_draw A) (mCons (mVar 0) (mCons (mC (.int 10)) mNil))) mNil))) (mSeq (mIf (asB (mBin gLt (mVar 5) (mC (.int 5)))) (mSeq (mAsg (mNew (mLst (mCons (mCall (l_law_draw A) (mCons (mVar 0) (mCons (mVar 1) mNil))) (mCons (mVar 1) (mCons (mNeg (mC (.int 1))) (mCons (mC (.bl true)) (mCons (mC (.bl false)) (mCons (mC .non) (mCons (mC (.str "0")) (mCons (mBin gIx (mVar 3) (mVar 4)) (mCons (mBin gSub (mVar 1) (mC (.int 1))) (mCons (mC (.int 0)) mNil)))))))))))) (mgName 6)) (mRet (mBin gAdd (mBin gAdd (mSl (mVar 3) none (some (mVar 4))) (mTup (mCons (mCall (l_law_any A) (mCons (mVar 0) (mCons (mVar 6) mNil))) mNil))) (mSl (mVar 3) (some (mBin gAdd (mVar 4) (mC (.int 1)))) none)))) mNext) (mSeq (mIf (asB (mBin gLt (mVar 5) (mC (.int 8)))) (mSeq (mAsg (mCall (l_law_draw A) (mCons (mVar 0) (mCons (mCallB gLen (mCons (mVar 2) mNil)) mNil))) (mgName 7)) (mSeq (mAsg (mIfE (asB (mBin gGt (mVar 7) (mC (.int 0)))) (mCall (l_law_made A) (mCons (mVar 1) (mCons (mSl (mVar 2) none (some (mVar 7))) (mCons (mBin gIx (mVar 2) (mVar 7)) mNil)))) (mC .non)) (mgName 8)) (mSeq (mIf (asB (mBin gIs (mVar 8) (mC .non))) (mRet (mVar 3)) mNext) (mSeq (mAsg (mBin gAdd (mC (.int 1)) (mCall (l_law_draw A) (mCons (mVar 0) (mCons (mBin gSub (mVar 1) (mC (.int 1))) mNil)))) (mgName 9)) (mSeq (mAsg (mBin gAdd (mBin gAdd (mVar 8) (mTup (mCons (mBin gSub (mVar 1) (mC (.int 1))) mNil))) (mBin gMul (mTup (mCons (mC (.int 0)) mNil)) (mBin gSub (mBin gSub (mCallB gLen (mCons (mVar 2) mNil)) (mVar 7)) (mC (.int 1))))) (mgName 10)) (mRet (mCallB (gS (fun ds => some (.tup ds))) (mCons (mCall (l_law_times A) (mCons (mVar 1) (mCons (mVar 3) (mCons (mVar 9) (mCons (mVar 10) mNil))))) mNil)))))))) mNext) (mRet (mCall (l_law_any A) (mCons (mVar 0) (mCons (mNew (mLst (mCons (mNew (mCallL gList (mCons (mVar 3) mNil))) (mCons (mSl (mVar 3) none (some (mNeg (mC (.int 1))))) (mCons (mBin gAdd (mVar 3) (mTup (mCons (mC (.int 0)) mNil))) (mCons (mRev (mVar 3)) (mCons (mCall (l_law_odd A) (mCons (mVar 0) (mCons (mVar 2) mNil))) mNil))))))) mNil))))))))
noncomputable def l_law_is_int (A : Str → Addr) : MF := mDef 3 3 (mRet (mIfE (asB (mCallB gIsi (mCons (mVar 0) (mCons (mC (.con (.ty "int"))) mNil)))) (mIfE (asB (ofB (mNot (asB (mCallB gIsi (mCons (mVar 0) (mCons (mC (.con (.ty "bool"))) mNil))))))) (mChain gLe gLe (mVar 1) (mVar 0) (mVar 2)) (mC (.bl false))) (mC (.bl false))))
noncomputable def l_law_added (A : Str → Addr) : MF := mDef 7 4 (mSeq (mAsg (mBin gMul (mNew (mLst (mCons (mC (.int 0)) mNil))) (mVar 3)) (mgName 4)) (mSeq (mFor (mZip (mVar 1) (mVar 2)) (mgTup 2 (mgCons (mgName 5) (mgCons (mgName 6) mgNil))) (mAsg (mCall (l_law_times A) (mCons (mVar 0) (mCons (mVar 4) (mCons (mVar 6) (mCons (mVar 5) mNil))))) (mgName 4))) (mRet (mCallB (gS (fun ds => some (.tup ds))) (mCons (mVar 4) mNil)))))
noncomputable def l_law_is_made (A : Str → Addr) : MF := mDef 5 4 (mSeq (mIf (mOr (mNot (asB (mCallB gIsi (mCons (mVar 3) (mCons (mC (.con (.ty "tuple"))) mNil))))) (asB (mBin gNe (mCallB gLen (mCons (mVar 3) mNil)) (mCallB gLen (mCons (mVar 1) mNil))))) (mRet (mC (.bl false))) mNext) (mSeq (mIf (mNot (asB (mCallF gAll (mLc (mIt (mVar 3)) (mgName 4) mYes (mCall (l_law_is_int A) (mCons (mVar 4) (mCons (mC (.int 0)) (mCons (mBin gSub (mVar 0) (mC (.int 1))) mNil)))) [4])))) (mRet (mC (.bl false))) mNext) (mRet (mBin gEq (mCall (l_law_added A) (mCons (mVar 0) (mCons (mVar 1) (mCons (mVar 3) (mCons (mCallB gLen (mCons (mVar 2) mNil)) mNil))))) (mVar 2)))))
noncomputable def l_ladder_of (A : Str → Addr) : MF := mDef 4 2 (mSeq (mAsg (mFld [A "Steps"] "kept_rows" (mCall (l_steps_of A) (mCons (mVar 0) (mCons (mVar 1) mNil)))) (mgName 2)) (mRet (mCallF (fun ds => some (.tup ds)) (mLc (mIt (mNew (mCallL gSrt (mCons (mVar 2) mNil)))) (mgName 3) mYes (mCallB (gS (fun ds => some (.tup ds))) (mCons (mBin gIx (mBin gIx (mVar 2) (mVar 3)) (mC (.int 0))) mNil)) [3]))))
noncomputable def l_ladder (A : Str → Addr) : MF := mDef 2 2 (mSeq (mDrop (mCall (l_check_sums A) (mCons (mVar 0) (mCons (mVar 1) mNil)))) (mRet (mCall (l_ladder_of A) (mCons (mVar 0) (mCons (mVar 1) mNil)))))
noncomputable def l_law_ladder (A : Str → Addr) : MF := mDef 8 2 (mSeq (mAsg (mNew (mLc (mIt (mNew (mCallL gSrt (mCons (mBin gIx (mCall (l_law_taken A) (mCons (mVar 0) (mCons (mVar 1) mNil))) (mC (.int 1))) mNil)))) (mgTup 2 (mgCons (mgName 6) (mgCons (mgName 7) mgNil))) mYes (mNew (mCallL gList (mCons (mVar 7) mNil))) [6, 7])) (mgName 2)) (mSeq (mAsg (mNew (mLc (mIt (mNew (mCallL gSrt (mCons (mBin gIx (mCall (l_law_taken A) (mCons (mVar 0) (mCons (mVar 1) mNil))) (mC (.int 1))) mNil)))) (mgTup 2 (mgCons (mgName 6) (mgCons (mgName 7) mgNil))) mYes (mVar 6) [6, 7])) (mgName 3)) (mSeq (mFor (mRg1 (mCallB gLen (mCons (mVar 2) mNil))) (mgName 4) (mFor (mRg1 (mCallB gLen (mCons (mVar 2) mNil))) (mgName 5) (mIf (mAnd (asB (mBin gNe (mVar 5) (mVar 4))) (asB (mBin gNe (mBin gIx (mBin gIx (mVar 2) (mVar 5)) (mBin gIx (mVar 3) (mVar 4))) (mC (.int 0))))) (mSetIx (mCall (l_law_times A) (mCons (mVar 0) (mCons (mBin gIx (mVar 2) (mVar 5)) (mCons (mBin gSub (mVar 0) (mBin gIx (mBin gIx (mVar 2) (mVar 5)) (mBin gIx (mVar 3) (mVar 4)))) (mCons (mBin gIx (mVar 2) (mVar 4)) mNil))))) (mVar 2) (mVar 5)) mNext))) (mRet (mCallF (fun ds => some (.tup ds)) (mLc (mIt (mVar 2)) (mgName 7) mYes (mCallB (gS (fun ds => some (.tup ds))) (mCons (mVar 7) mNil)) [7]))))))
noncomputable def l_law_turned (A : Str → Addr) : MF := mDef 4 2 (mSeq (mPar 2 3 (mCons (mNew (mCallL gList (mCons (mVar 1) mNil))) (mCons (mNew (mLst mNil)) mNil))) (mSeq (mWh (asB (mBin gGt (mCallB gLen (mCons (mVar 2) mNil)) (mC (.int 0)))) (mDrop (mMB gAppend (mVar 3) (mCons (mMB gPop (mVar 2) (mCons (mCall (l_law_draw A) (mCons (mVar 0) (mCons (mCallB gLen (mCons (mVar 2) mNil)) mNil))) mNil)) mNil)))) (mRet (mVar 3))))
noncomputable def l_law_others (A : Str → Addr) : MF := mDef 11 4 (mSeq (mPar 4 5 (mCons (mCall (l_law_turned A) (mCons (mVar 0) (mCons (mVar 3) mNil))) (mCons (mCall (l_law_draw A) (mCons (mVar 0) (mCons (mC (.int 6)) mNil))) mNil))) (mSeq (mFor (mRg1 (mCall (l_law_draw A) (mCons (mVar 0) (mCons (mC (.int 6)) mNil)))) (mgName 6) (mIf (asB (mBin gGt (mCallB gLen (mCons (mVar 4) mNil)) (mC (.int 1)))) (mSeq (mPar 7 8 (mCons (mCall (l_law_draw A) (mCons (mVar 0) (mCons (mCallB gLen (mCons (mVar 4) mNil)) mNil))) (mCons (mCall (l_law_draw A) (mCons (mVar 0) (mCons (mCallB gLen (mCons (mVar 4) mNil)) mNil))) mNil))) (mSeq (mAsg (mCall (l_law_times A) (mCons (mVar 1) (mCons (mBin gIx (mVar 4) (mVar 7)) (mCons (mBin gAdd (mC (.int 1)) (mCall (l_law_draw A) (mCons (mVar 0) (mCons (mBin gSub (mVar 1) (mC (.int 1))) mNil)))) (mCons (mBin gIx (mVar 4) (mVar 8)) mNil))))) (mgName 9)) (mIf (mAnd (asB (mBin gNe (mVar 7) (mVar 8))) (asB (mCallF gAny (mLc (mIt (mVar 9)) (mgName 10) mYes (mBin gNe (mVar 10) (mC (.int 0))) [10])))) (mSetIx (mCallB (gS (fun ds => some (.tup ds))) (mCons (mVar 9) mNil)) (mVar 4) (mVar 7)) mNext))) mNext)) (mSeq (mIf (mAnd (asB (mBin gEq (mVar 5) (mC (.int 0)))) (asB (mBin gGt (mCallB gLen (mCons (mVar 4) mNil)) (mC (.int 0))))) (mDrop (mMB gPop (mVar 4) (mCons (mCall (l_law_draw A) (mCons (mVar 0) (mCons (mCallB gLen (mCons (mVar 4) mNil)) mNil))) mNil))) mNext) (mSeq (mIf (asB (mBin gEq (mVar 5) (mC (.int 1)))) (mRet (mCall (l_law_sums A) (mCons (mVar 0) (mCons (mVar 1) (mCons (mVar 2) (mCons (mC (.int 4)) mNil)))))) mNext) (mSeq (mIf (mAnd (asB (mBin gEq (mVar 5) (mC (.int 2)))) (asB (mBin gLt (mCallB gLen (mCons (mVar 4) mNil)) (mC (.int 40))))) (mDrop (mMB gAppend (mVar 4) (mCons (mCall (l_law_sum A) (mCons (mVar 0) (mCons (mVar 1) (mCons (mVar 2) mNil)))) mNil))) mNext) (mSeq (mIf (asB (mBin gEq (mVar 5) (mC (.int 3)))) (mRet (mCall (l_law_ladder A) (mCons (mVar 1) (mCons (mVar 3) mNil)))) mNext) (mRet (mCallB (gS (fun ds => some (.tup ds))) (mCons (mVar 4) mNil)))))))))
noncomputable def l_alike (A : Str → Addr) : MF := mDef 3 3 (mSeq (mDrop (mCall (l_check_sums A) (mCons (mVar 0) (mCons (mVar 1) mNil)))) (mSeq (mIf (mNot (asT (mCall (l_are_sums A) (mCons (mVar 0) (mCons (mVar 2) mNil))))) mNever mNext) (mSeq (mIf (mAnd (asB (mBin gGt (mCallB gLen (mCons (mVar 1) mNil)) (mC (.int 0)))) (mAnd (asB (mBin gGt (mCallB gLen (mCons (mVar 2) mNil)) (mC (.int 0)))) (asB (mBin gNe (mCallB gLen (mCons (mBin gIx (mVar 1) (mC (.int 0))) mNil)) (mCallB gLen (mCons (mBin gIx (mVar 2) (mC (.int 0))) mNil)))))) mNever mNext) (mRet (mBin gEq (mCall (l_ladder_of A) (mCons (mVar 0) (mCons (mVar 1) mNil))) (mCall (l_ladder_of A) (mCons (mVar 0) (mCons (mVar 2) mNil))))))))
noncomputable def l_Steps_is_made (A : Str → Addr) : MF := mDef 2 2 (mRet (mBin gIs (mCall (l_first_place A) (mCons (mBin gIx (mMeth (A "Steps") "fallen" (l_Steps_fallen A) (mVar 0) (mCons (mVar 1) (mCons (mNewD (fun _ s => .ok [] s)) mNil))) (mC (.int 0))) mNil)) (mC .non)))
noncomputable def l_nought (A : Str → Addr) : MF := mDef 8 2 (mSeq (mDrop (mCall (l_check_sums A) (mCons (mVar 0) (mCons (mVar 1) mNil)))) (mSeq (mAsg (mMake (A "Steps") (l_Steps_init A) (mCons (mVar 0) mNil)) (mgName 2)) (mSeq (mFor (mEnum (mVar 1)) (mgTup 2 (mgCons (mgName 3) (mgCons (mgName 4) mgNil))) (mSeq (mIf (asT (mMeth (A "Steps") "is_made" (l_Steps_is_made A) (mVar 2) (mCons (mVar 4) mNil))) (mSeq (mAsg (mMeth (A "Steps") "made_by" (l_Steps_made_by A) (mVar 2) (mCons (mVar 4) mNil)) (mgName 5)) (mSeq (mAsg (mNew (mLc (mRg1 (mVar 3)) (mgName 7) mYes (mBin gMod (mNeg (mGet2 (mVar 5) (mVar 7) (mC (.int 0)))) (mVar 0)) [7])) (mgName 6)) (mRet (mCallB (gS (fun ds => some (.tup ds))) (mCons (mBin gAdd (mBin gAdd (mVar 6) (mNew (mLst (mCons (mC (.int 1)) mNil)))) (mBin gMul (mNew (mLst (mCons (mC (.int 0)) mNil))) (mBin gSub (mBin gSub (mCallB gLen (mCons (mVar 1) mNil)) (mVar 3)) (mC (.int 1))))) mNil))))) mNext) (mDrop (mMeth (A "Steps") "take" (l_Steps_take A) (mVar 2) (mCons (mVar 3) (mCons (mVar 4) mNil)))))) (mRet (mC .non)))))
noncomputable def l_law_nought (A : Str → Addr) : MF := mDef 7 2 (mSeq (mAsg (mBin gIx (mCall (l_law_taken A) (mCons (mVar 0) (mCons (mVar 1) mNil))) (mC (.int 0))) (mgName 2)) (mSeq (mAsg (mNew (mLc (mRg1 (mCallB gLen (mCons (mVar 1) mNil))) (mgName 4) (asB (mBin gNotIn (mVar 4) (mVar 2))) (mVar 4) [4])) (mgName 3)) (mSeq (mIf (asB (mBin gEq (mCallB gLen (mCons (mVar 3) mNil)) (mC (.int 0)))) (mRet (mC .non)) mNext) (mSeq (mAsg (mBin gIx (mVar 3) (mC (.int 0))) (mgName 4)) (mSeq (mAsg (mCall (l_law_made A) (mCons (mVar 0) (mCons (mSl (mVar 1) none (some (mVar 4))) (mCons (mBin gIx (mVar 1) (mVar 4)) mNil)))) (mgName 5)) (mRet (mCallB (gS (fun ds => some (.tup ds))) (mCons (mBin gAdd (mBin gAdd (mNew (mLc (mIt (mVar 5)) (mgName 6) mYes (mBin gMod (mCallB gInt (mCons (mBin gSub (mC (.int 0)) (mVar 6)) mNil)) (mVar 0)) [6])) (mNew (mLst (mCons (mC (.int 1)) mNil)))) (mBin gMul (mNew (mLst (mCons (mC (.int 0)) mNil))) (mBin gSub (mBin gSub (mCallB gLen (mCons (mVar 1) mNil)) (mVar 4)) (mC (.int 1))))) mNil))))))))
end DL
end
/-! ### Mir -/
section
set_option linter.all false
set_option maxRecDepth 100000
set_option maxHeartbeats 4000000
namespace M03
open PySem PySem.Spec L2
open PyProof.Rows hiding St
open DL
noncomputable def m_law (A : Str → Addr) (ns : List Int) : MF := mDef 14 1 (mSeq (mAsg (mCallS (l_law_hand A ns)) (mgName 1)) (mSeq (mFor (mRg1 (mC (.int 5))) (mgName 2) (mSeq (mPar 3 4 (mCons (mCall (l_law_prime A) (mCons (mVar 1) mNil)) (mCons (mCall (l_law_any A) (mCons (mVar 1) (mCons (mNew (mLst (mCons (mC (.int 1)) (mCons (mC (.int 2)) (mCons (mC (.int 3)) (mCons (mC (.int 4)) (mCons (mC (.int 6)) (mCons (mC (.int 10)) mNil)))))))) mNil))) mNil))) (mSeq (mAsg (mCall (l_law_sums A) (mCons (mVar 1) (mCons (mVar 3) (mCons (mVar 4) (mCons (mCall (l_law_any A) (mCons (mVar 1) (mCons (mNew (mLst (mCons (mC (.int 3)) (mCons (mC (.int 6)) (mCons (mC (.int 12)) (mCons (mC (.int 40)) mNil)))))) mNil))) mNil))))) (mgName 5)) (mSeq (mPar 6 7 (mCons (mCall (l_law_ladder A) (mCons (mVar 3) (mCons (mVar 5) mNil))) (mCons (mCall (l_ladder A) (mCons (mVar 3) (mCons (mVar 5) mNil))) mNil))) (mSeq (mIf (mOr (asB (mBin gNe (mVar 7) (mVar 6))) (mOr (mNot (asB (mCallB gIsi (mCons (mVar 7) (mCons (mC (.con (.ty "tuple"))) mNil))))) (mNot (asB (mCallF gAll (mLc (mIt (mVar 7)) (mgName 11) mYes (mCallB gIsi (mCons (mVar 11) (mCons (mC (.con (.ty "tuple"))) mNil))) [11])))))) (mRet (mC (.bl false))) mNext) (mSeq (mAsg (mNew (mLc (mIt (mVar 7)) (mgName 11) mYes (mBin gIx (mNew (mLc (mEnum (mVar 11)) (mgTup 2 (mgCons (mgName 12) (mgCons (mgName 13) mgNil))) (asB (mBin gNe (mVar 13) (mC (.int 0)))) (mVar 12) [12, 13])) (mC (.int 0))) [11])) (mgName 8)) (mSeq (mIf (mOr (asB (mBin gNe (mVar 8) (mNew (mCallL gSrtU (mCons (mVar 8) mNil))))) (asB (mCallF gAny (mLc (mZip (mVar 7) (mVar 8)) (mgTup 2 (mgCons (mgName 11) (mgCons (mgName 12) mgNil))) mYes (mBin gNe (mBin gIx (mVar 11) (mVar 12)) (mC (.int 1))) [11, 12])))) (mRet (mC (.bl false))) mNext) (mSeq (mAsg (mCall (l_law_others A) (mCons (mVar 1) (mCons (mVar 3) (mCons (mVar 4) (mCons (mVar 5) mNil))))) (mgName 9)) (mSeq (mAsg (mCall (l_alike A) (mCons (mVar 3) (mCons (mVar 5) (mCons (mVar 9) mNil)))) (mgName 10)) (mSeq (mIf (mOr (mNot (asB (mCallB gIsi (mCons (mVar 10) (mCons (mC (.con (.ty "bool"))) mNil))))) (asB (mBin gNe (mVar 10) (mBin gEq (mCall (l_law_ladder A) (mCons (mVar 3) (mCons (mVar 9) mNil))) (mVar 6))))) (mRet (mC (.bl false))) mNext) (mSeq (mIf (asB (mBin gNe (mVar 10) (mCall (l_alike A) (mCons (mVar 3) (mCons (mVar 9) (mCons (mVar 5) mNil)))))) (mRet (mC (.bl false))) mNext) (mSeq (mIf (mOr (asB (mBin gIsNot (mCall (l_alike A) (mCons (mVar 3) (mCons (mVar 5) (mCons (mVar 7) mNil)))) (mC (.bl true)))) (asB (mBin gNe (mCall (l_ladder A) (mCons (mVar 3) (mCons (mVar 7) mNil))) (mVar 7)))) (mRet (mC (.bl false))) mNext) (mSeq (mIf (asB (mBin gNe (mCall (l_alike A) (mCons (mVar 3) (mCons (mVar 5) (mCons (mTup mNil) mNil)))) (mBin gEq (mCallB gLen (mCons (mVar 5) mNil)) (mC (.int 0))))) (mRet (mC (.bl false))) mNext) (mSeq (mAsg (mCall (l_nought A) (mCons (mVar 3) (mCons (mVar 5) mNil))) (mgName 11)) (mSeq (mIf (mOr (asB (mBin gNe (mVar 11) (mCall (l_law_nought A) (mCons (mVar 3) (mCons (mVar 5) mNil))))) (mAnd (asB (mBin gIsNot (mVar 11) (mC .non))) (mNot (asB (mCallB gIsi (mCons (mVar 11) (mCons (mC (.con (.ty "tuple"))) mNil))))))) (mRet (mC (.bl false))) mNext) (mIf (mAnd (asB (mBin gIsNot (mVar 11) (mC .non))) (asB (mCallB (gS gAnyT) (mCons (mCall (l_law_added A) (mCons (mVar 3) (mCons (mVar 5) (mCons (mVar 11) (mCons (mVar 4) mNil))))) mNil)))) (mRet (mC (.bl false))) mNext)))))))))))))))) (mRet (mC (.bl true)))))
end M03
end
/-! ### Der -/
section
set_option linter.all false
set_option maxRecDepth 100000
set_option maxHeartbeats 4000000
namespace M03
open PySem PySem.Spec L2
open PyProof.Rows hiding St
open DL
structure Txt (K : PySem.W.Frag) (mg : Str → Option Value) (A : Str → Addr) : Prop where
  b_abs : mg "abs" = none
  b_int : mg "int" = none
  b_len : mg "len" = none
  b_any : mg "any" = none
  b_range : mg "range" = none
  b_tuple : mg "tuple" = none
  b_zip : mg "zip" = none
  b_bool : mg "bool" = none
  b_isinstance : mg "isinstance" = none
  b_all : mg "all" = none
  c_LEAST_PRIME : ∃ t, mg "LEAST_PRIME" = some (.int 2 t)
  c_MOST_PRIME : ∃ t, mg "MOST_PRIME" = some (.int 251 t)
  c_MOST_WIDTH : ∃ t, mg "MOST_WIDTH" = some (.int 10 t)
  c_MOST_SUMS : ∃ t, mg "MOST_SUMS" = some (.int 40 t)
  b_dict : mg "dict" = none
  b_list : mg "list" = none
  b_sorted : mg "sorted" = none
  b_enumerate : mg "enumerate" = none
  k_Steps : Cls K (A "Steps")
  b_set : mg "set" = none
  p_kept_prime : Plain K [A "Steps"] "kept_prime"
  p_kept_rows : Plain K [A "Steps"] "kept_rows"
def top (i : Nat) : Stmt := PySem.Challenge.pw_lightfirst_k03_whole_ladders_and_noughts.main.body.getD i (.Pass ⟨0, 0, 0, 0⟩)
abbrev st_law_hand : Stmt := (top 27)
abbrev st_law_draw : Stmt := (top 28)
abbrev st_law_any : Stmt := (top 29)
abbrev st_law_prime : Stmt := (top 30)
abbrev st_law_mixed : Stmt := (top 32)
abbrev st_law_sum : Stmt := (top 31)
abbrev st_law_sums : Stmt := (top 33)
abbrev st_is_integer : Stmt := (top 1)
abbrev st_is_within : Stmt := (top 2)
abbrev st_is_prime : Stmt := (top 12)
abbrev st_check_prime : Stmt := (top 13)
abbrev st_is_sum : Stmt := (top 14)
abbrev st_are_sums : Stmt := (top 15)
abbrev st_check_sums : Stmt := (top 16)
abbrev st_Steps_init : Stmt := (inClass (top 20) 0)
abbrev st_less_times : Stmt := (top 18)
abbrev st_Steps_fallen : Stmt := (inClass (top 20) 1)
abbrev st_first_place : Stmt := (top 19)
abbrev st_inverse : Stmt := (top 17)
abbrev st_Steps_cleared : Stmt := (inClass (top 20) 4)
abbrev st_Steps_take : Stmt := (inClass (top 20) 3)
abbrev st_steps_of : Stmt := (top 21)
abbrev st_ladder_of : Stmt := (top 22)
abbrev st_ladder : Stmt := (top 23)
abbrev st_law_times : Stmt := (top 34)
abbrev st_law_fallen : Stmt := (top 36)
abbrev st_law_inverse : Stmt := (top 35)
abbrev st_law_taken : Stmt := (top 37)
abbrev st_law_ladder : Stmt := (top 41)
abbrev st_law_turned : Stmt := (top 40)
abbrev st_law_others : Stmt := (top 42)
abbrev st_alike : Stmt := (top 24)
abbrev st_Steps_is_made : Stmt := (inClass (top 20) 2)
abbrev st_Steps_made_by : Stmt := (inClass (top 20) 5)
abbrev st_nought : Stmt := (top 25)
abbrev st_law_made : Stmt := (top 38)
abbrev st_law_nought : Stmt := (top 43)
abbrev st_law_added : Stmt := (top 39)
abbrev st_law : Stmt := (top 44)
section
variable {P : Program} {w : World} {K : PySem.W.Frag} {mg : Str → Option Value} {base : Heap} {A : Str → Addr}
theorem sc_law_hand : FnScope ["_law_script", "_law_given", "_law_cell"] ["_law_script"] (defScope st_law_hand) := ⟨rfl, rfl, rfl, by decide +kernel, rfl, by decide +kernel, by decide +kernel⟩
theorem d_law_hand (T : Txt K mg A)  {f : Addr} {fd : FuncData} (F : Fun K "_law_hand" "_law_hand" st_law_hand f fd) : FnS P w K mg base 1 f fd ["_law_script"] (l_law_hand A) :=
  fnS_D (k := 0) F sc_law_hand rfl fun ns h63 cdv Ar outer s H E hr => (pss_scr (ps_setScr (own := [("_law_cell", 2)]) (i := 1) rfl sc_law_hand.nd rfl rfl rfl (tg_name (by decide)) (pi_scr h63 (pv 0)) (blkOk_by (by kernel_rfl)) (fun _ _ _ _ _ => (pg_name (i := 2) sc_law_hand.nd rfl (Or.inl rfl))) (fun _ _ _ _ _ => dts_nil) (fun _ _ _ _ _ => (de_callB ca_abs rfl T.b_abs bt_abs (da_cons (de_callTy ca_int rfl T.b_int bt_int (da_cons (de_var 2 (pv 2)) da_nil)) da_nil)))) (dss_one (ds_ret (de_new (dl_lst (da_cons (de_var 1 (pv 1)) (da_cons de_int (da_cons de_int (da_cons (de_bin op_addD de_int (de_callB (ca_len rfl) rfl T.b_len bt_len (da_cons (de_var 1 (pv 1)) da_nil))) (da_cons de_int da_nil))))))))))
theorem sc_law_draw : FnScope ["_law_hand_here", "_law_many", "_law_cell", "_law_digit", "_law_number"] ["_law_hand_here", "_law_many"] (defScope st_law_draw) := ⟨rfl, rfl, rfl, by decide +kernel, rfl, by decide +kernel, by decide +kernel⟩
theorem d_law_draw (T : Txt K mg A)  {f : Addr} {fd : FuncData} (F : Fun K "_law_draw" "_law_draw" st_law_draw f fd) : FnD P w K mg base 1 f fd ["_law_hand_here", "_law_many"] (l_law_draw A) :=
  fn_D (k := 0) F sc_law_draw fun cdv Ar outer s H E hr => (dss_cons (ds_if (PW.pt (dw_and (dt_cmp (op_eqDD (hu64_of hr)) (de_ix (hu_of hr) (de_var 0 (pv 0)) de_int) de_int (nomark _)) (dw_and1 (dt_cmp op_ltD (de_ix (hu_of hr) (de_var 0 (pv 0)) de_int) (de_callB (ca_len rfl) rfl T.b_len bt_len (da_cons (de_ix (hu_of hr) (de_var 0 (pv 0)) de_int) da_nil)) (nomark _))))) (dss_cons (ds_set (i := 2) sc_law_draw.nd rfl (Or.inl rfl) (de_ix (hu_of hr) (de_ix (hu_of hr) (de_var 0 (pv 0)) de_int) (de_ix (hu_of hr) (de_var 0 (pv 0)) de_int))) (dss_cons (ds_setIx (hu_of hr) (de_bin op_addD (de_ix (hu_of hr) (de_var 0 (pv 0)) de_int) de_int) (de_var 0 (pv 0)) de_int) (dss_cons (ds_setIx (hu_of hr) (de_bin op_modD (de_callTy ca_int rfl T.b_int bt_int (da_cons (de_bin op_addD (de_bin op_addD (de_bin op_mulD (de_ix (hu_of hr) (de_var 0 (pv 0)) de_int) de_int) (de_var 2 (pv 2))) de_int) da_nil)) de_int) (de_var 0 (pv 0)) de_int) (dss_one (ds_if (dt_cmp op_geD (de_var 2 (pv 2)) (de_bin op_powD de_int de_int) (nomark _)) (dss_one (ds_setIx (hu_of hr) (de_var 2 (pv 2)) (de_var 0 (pv 0)) de_int)) dss_nil))))) dss_nil) (dss_cons (ds_if (dt_cmp op_gtD (de_ix (hu_of hr) (de_var 0 (pv 0)) de_int) de_int (nomark _)) (dss_cons (ds_set (i := 3) sc_law_draw.nd rfl (Or.inl rfl) (de_bin op_modD (de_callTy ca_int rfl T.b_int bt_int (da_cons (de_ix (hu_of hr) (de_var 0 (pv 0)) de_int) da_nil)) (de_var 1 (pv 1)))) (dss_cons (ds_setIx (hu_of hr) (de_bin op_fdivD (de_ix (hu_of hr) (de_var 0 (pv 0)) de_int) (de_var 1 (pv 1))) (de_var 0 (pv 0)) de_int) (dss_one (ds_ret (de_var 3 (pv 3)))))) dss_nil) (dss_cons (ds_setIx (hu_of hr) (de_bin op_addD (de_ix (hu_of hr) (de_var 0 (pv 0)) de_int) de_int) (de_var 0 (pv 0)) de_int) (dss_cons (ds_set (i := 4) sc_law_draw.nd rfl (Or.inl rfl) (de_bin op_modD (de_callTy ca_int rfl T.b_int bt_int (da_cons (de_bin op_mulD (de_callTy ca_int rfl T.b_int bt_int (da_cons (de_bin op_addD (de_ix (hu_of hr) (de_var 0 (pv 0)) de_int) (de_bin op_mulD de_int (de_ix (hu_of hr) (de_var 0 (pv 0)) de_int))) da_nil)) de_int) da_nil)) de_int)) (dss_cons (ds_set (i := 4) sc_law_draw.nd rfl (Or.inl rfl) (de_bin op_modD (de_callTy ca_int rfl T.b_int bt_int (da_cons (de_bin op_mulD (de_var 4 (pv 4)) (de_bin op_addD (de_bin op_fdivD (de_var 4 (pv 4)) de_int) de_int)) da_nil)) de_int)) (dss_cons (ds_set (i := 4) sc_law_draw.nd rfl (Or.inl rfl) (de_bin op_modD (de_callTy ca_int rfl T.b_int bt_int (da_cons (de_bin op_mulD (de_var 4 (pv 4)) (de_bin op_addD (de_bin op_fdivD (de_var 4 (pv 4)) de_int) de_int)) da_nil)) de_int)) (dss_one (ds_ret (de_bin op_modD (de_callTy ca_int rfl T.b_int bt_int (da_cons (de_bin op_fdivD (de_var 4 (pv 4)) de_int) da_nil)) (de_var 1 (pv 1)))))))))))
theorem sc_law_any : FnScope ["_law_hand_here", "_law_some"] ["_law_hand_here", "_law_some"] (defScope st_law_any) := ⟨rfl, rfl, rfl, by decide +kernel, rfl, by decide +kernel, by decide +kernel⟩
theorem d_law_any (T : Txt K mg A) (k_law_draw : Kn P w K mg base "_law_draw" 1 ["_law_hand_here", "_law_many"] (l_law_draw A)) {f : Addr} {fd : FuncData} (F : Fun K "_law_any" "_law_any" st_law_any f fd) : FnD P w K mg base 2 f fd ["_law_hand_here", "_law_some"] (l_law_any A) :=
  fn_D (k := 1) F sc_law_any fun cdv Ar outer s H E hr => (dss_one (ds_ret (de_ix (hu_of hr) (de_var 1 (pv 1)) (de_fn k_law_draw hr (by decide) (takes_of rfl rfl rfl rfl) rfl rfl (da_cons (de_var 0 (pv 0)) (da_cons (de_callB (ca_len rfl) rfl T.b_len bt_len (da_cons (de_var 1 (pv 1)) da_nil)) da_nil)) (len_cons (len_cons len_nil))))))
theorem sc_law_prime : FnScope ["_law_hand_here"] ["_law_hand_here"] (defScope st_law_prime) := ⟨rfl, rfl, rfl, by decide +kernel, rfl, by decide +kernel, by decide +kernel⟩
theorem d_law_prime (T : Txt K mg A) (k_law_any : Kn P w K mg base "_law_any" 2 ["_law_hand_here", "_law_some"] (l_law_any A)) {f : Addr} {fd : FuncData} (F : Fun K "_law_prime" "_law_prime" st_law_prime f fd) : FnD P w K mg base 3 f fd ["_law_hand_here"] (l_law_prime A) :=
  fn_D (k := 2) F sc_law_prime fun cdv Ar outer s H E hr => (dss_one (ds_ret (de_fn k_law_any hr (by decide) (takes_of rfl rfl rfl rfl) rfl rfl (da_cons (de_var 0 (pv 0)) (da_cons (de_new (dl_lst (da_cons de_int (da_cons de_int (da_cons de_int (da_cons de_int (da_cons de_int (da_cons de_int (da_cons de_int (da_cons de_int (da_cons de_int (da_cons de_int (da_cons de_int (da_cons de_int (da_cons de_int (da_cons de_int da_nil)))))))))))))))) da_nil)) (len_cons (len_cons len_nil)))))
theorem sc_law_mixed : FnScope ["_law_hand_here", "_law_prime_here", "_law_sums_here", "_law_found", "_law_turn", "_law_one", "_law_times_here", "_law_here", "_law_more", "_law_value"] ["_law_hand_here", "_law_prime_here", "_law_sums_here"] (defScope st_law_mixed) := ⟨rfl, rfl, rfl, by decide +kernel, rfl, by decide +kernel, by decide +kernel⟩
theorem d_law_mixed (T : Txt K mg A) (k_law_draw : Kn P w K mg base "_law_draw" 1 ["_law_hand_here", "_law_many"] (l_law_draw A)) (k_law_any : Kn P w K mg base "_law_any" 2 ["_law_hand_here", "_law_some"] (l_law_any A)) {f : Addr} {fd : FuncData} (F : Fun K "_law_mixed" "_law_mixed" st_law_mixed f fd) : FnD P w K mg base 3 f fd ["_law_hand_here", "_law_prime_here", "_law_sums_here"] (l_law_mixed A) :=
  fn_D (k := 2) F sc_law_mixed fun cdv Ar outer s H E hr => (dss_cons (ds_set (i := 3) sc_law_mixed.nd rfl (Or.inl rfl) (de_bin op_mulD (de_new (dl_lst (da_cons de_int da_nil))) (de_callB (ca_len rfl) rfl T.b_len bt_len (da_cons (de_ix (hu_of hr) (de_var 2 (pv 2)) de_int) da_nil)))) (dss_cons (ds_for (vs := [4]) (passes_of rfl) rfl (di_rg1 rfl T.b_range (de_bin op_addD de_int (de_fn k_law_draw hr (by decide) (takes_of rfl rfl rfl rfl) rfl rfl (da_cons (de_var 0 (pv 0)) (da_cons de_int da_nil)) (len_cons (len_cons len_nil))))) (pg_name (i := 4) sc_law_mixed.nd rfl (Or.inl rfl)) (tg_name (by decide)) (dss_cons (ds_asg (vs := [5, 6]) (de_tup (da_cons (de_fn k_law_any hr (by decide) (takes_of rfl rfl rfl rfl) rfl rfl (da_cons (de_var 0 (pv 0)) (da_cons (de_var 2 (pv 2)) da_nil)) (len_cons (len_cons len_nil))) (da_cons (de_bin op_addD de_int (de_fn k_law_draw hr (by decide) (takes_of rfl rfl rfl rfl) rfl rfl (da_cons (de_var 0 (pv 0)) (da_cons (de_bin op_subD (de_var 1 (pv 1)) de_int) da_nil)) (len_cons (len_cons len_nil)))) da_nil))) (pg_tup (n := 2) rfl (pgs_cons (pg_name (i := 5) sc_law_mixed.nd rfl (Or.inl rfl)) (pgs_cons (pg_name (i := 6) sc_law_mixed.nd rfl (Or.inr rfl)) pgs_nil))) (tg_tup (tgs_cons (tg_name (by decide)) (tgs_cons (tg_name (by decide)) tgs_nil)))) (dss_one (ds_setLc (own := [("_law_here", 7), ("_law_more", 8)]) (i := 3) rfl sc_law_mixed.nd rfl rfl rfl (tg_tup (tgs_cons (tg_name (by decide)) (tgs_cons (tg_name (by decide)) tgs_nil))) (di_zip rfl T.b_zip (de_var 3 (pv 3)) (de_var 5 (pv 5))) (blkOk_by (by kernel_rfl)) (fun _ _ _ _ _ => (pg_tup (n := 2) rfl (pgs_cons (pg_name (i := 7) sc_law_mixed.nd rfl (Or.inl rfl)) (pgs_cons (pg_name (i := 8) sc_law_mixed.nd rfl (Or.inl rfl)) pgs_nil)))) (fun _ _ _ _ _ => dts_nil) (fun _ _ _ _ _ => (de_bin op_modD (de_callTy ca_int rfl T.b_int bt_int (da_cons (de_bin op_addD (de_var 7 (pv 7)) (de_bin op_mulD (de_var 6 (pv 6)) (de_var 8 (pv 8)))) da_nil)) (de_var 1 (pv 1)))))))) (dss_one (ds_ret (de_ifExp (dt_val (de_callBF (ca_any rfl) rfl T.b_any bt_any (dl_lc (own := [("_law_value", 9)]) rfl sc_law_mixed.nd (tg_name (by decide)) (di_seq (de_var 3 (pv 3))) (blkOk_by (by kernel_rfl)) (fun _ _ _ _ _ => (pg_name (i := 9) sc_law_mixed.nd rfl (Or.inl rfl))) (fun _ _ _ _ _ => dts_nil) (fun _ _ _ _ _ => (de_cmp (op_neDD (hu64_of hr)) (de_var 9 (pv 9)) de_int (nomark _)))))) (de_callTy (ca_tuple.both ca_tupleT) rfl T.b_tuple bt_tuple (da_cons (de_var 3 (pv 3)) da_nil)) de_non)))))
theorem sc_law_sum : FnScope ["_law_hand_here", "_law_prime_here", "_law_width", "_law_kind", "_law_found", "_law_place", "_law_value"] ["_law_hand_here", "_law_prime_here", "_law_width"] (defScope st_law_sum) := ⟨rfl, rfl, rfl, by decide +kernel, rfl, by decide +kernel, by decide +kernel⟩
theorem d_law_sum (T : Txt K mg A) (k_law_draw : Kn P w K mg base "_law_draw" 1 ["_law_hand_here", "_law_many"] (l_law_draw A)) {f : Addr} {fd : FuncData} (F : Fun K "_law_sum" "_law_sum" st_law_sum f fd) : FnD P w K mg base 2 f fd ["_law_hand_here", "_law_prime_here", "_law_width"] (l_law_sum A) :=
  fn_D (k := 1) F sc_law_sum fun cdv Ar outer s H E hr => (dss_cons (ds_set (i := 3) sc_law_sum.nd rfl (Or.inr rfl) (de_fn k_law_draw hr (by decide) (takes_of rfl rfl rfl rfl) rfl rfl (da_cons (de_var 0 (pv 0)) (da_cons de_int da_nil)) (len_cons (len_cons len_nil)))) (dss_cons (ds_setLc (own := [("_law_place", 5)]) (i := 4) rfl sc_law_sum.nd rfl rfl rfl (tg_name (by decide)) (di_rg1 rfl T.b_range (de_var 2 (pv 2))) (blkOk_by (by kernel_rfl)) (fun _ _ _ _ _ => (pg_name (i := 5) sc_law_sum.nd rfl (Or.inl rfl))) (fun _ _ _ _ _ => dts_nil) (fun _ _ _ _ _ => (de_ifExp (PW.pt (dw_or (dt_cmp op_ltD (de_var 3 (pv 3)) de_int (nomark _)) (dw_or1 (dt_cmp (op_eqDD (hu64_of hr)) (de_fn k_law_draw hr (by decide) takes0 rfl rfl (da_cons (de_var 0 (pv 0)) (da_cons de_int da_nil)) (len_cons (len_cons len_nil))) de_int (nomark _))))) (de_fn k_law_draw hr (by decide) takes0 rfl rfl (da_cons (de_var 0 (pv 0)) (da_cons (de_var 1 (pv 1)) da_nil)) (len_cons (len_cons len_nil))) de_int))) (dss_cons (ds_if (PW.pt (dw_or (dt_cmp (op_eqDD (hu64_of hr)) (de_var 3 (pv 3)) de_int (nomark _)) (dw_or1 (dt_not (dt_val (de_callBF (ca_any rfl) rfl T.b_any bt_any (dl_lc (own := [("_law_value", 6)]) rfl sc_law_sum.nd (tg_name (by decide)) (di_seq (de_var 4 (pv 4))) (blkOk_by (by kernel_rfl)) (fun _ _ _ _ _ => (pg_name (i := 6) sc_law_sum.nd rfl (Or.inl rfl))) (fun _ _ _ _ _ => dts_nil) (fun _ _ _ _ _ => (de_cmp (op_neDD (hu64_of hr)) (de_var 6 (pv 6)) de_int (nomark _)))))))))) (dss_cons (ds_set (i := 4) sc_law_sum.nd rfl (Or.inl rfl) (de_bin op_mulD (de_new (dl_lst (da_cons de_int da_nil))) (de_var 2 (pv 2)))) (dss_one (ds_setIx (hu_of hr) (de_bin op_addD de_int (de_fn k_law_draw hr (by decide) (takes_of rfl rfl rfl rfl) rfl rfl (da_cons (de_var 0 (pv 0)) (da_cons (de_bin op_subD (de_var 1 (pv 1)) de_int) da_nil)) (len_cons (len_cons len_nil)))) (de_var 4 (pv 4)) (de_fn k_law_draw hr (by decide) (takes_of rfl rfl rfl rfl) rfl rfl (da_cons (de_var 0 (pv 0)) (da_cons (de_var 2 (pv 2)) da_nil)) (len_cons (len_cons len_nil)))))) dss_nil) (dss_one (ds_ret (de_callTy (ca_tuple.both ca_tupleT) rfl T.b_tuple bt_tuple (da_cons (de_var 4 (pv 4)) da_nil)))))))
theorem sc_law_sums : FnScope ["_law_hand_here", "_law_prime_here", "_law_width", "_law_most", "_law_found", "_law_turn", "_law_one"] ["_law_hand_here", "_law_prime_here", "_law_width", "_law_most"] (defScope st_law_sums) := ⟨rfl, rfl, rfl, by decide +kernel, rfl, by decide +kernel, by decide +kernel⟩
theorem d_law_sums (T : Txt K mg A) (k_law_draw : Kn P w K mg base "_law_draw" 1 ["_law_hand_here", "_law_many"] (l_law_draw A)) (k_law_mixed : Kn P w K mg base "_law_mixed" 3 ["_law_hand_here", "_law_prime_here", "_law_sums_here"] (l_law_mixed A)) (k_law_sum : Kn P w K mg base "_law_sum" 2 ["_law_hand_here", "_law_prime_here", "_law_width"] (l_law_sum A)) {f : Addr} {fd : FuncData} (F : Fun K "_law_sums" "_law_sums" st_law_sums f fd) : FnD P w K mg base 4 f fd ["_law_hand_here", "_law_prime_here", "_law_width", "_law_most"] (l_law_sums A) :=
  fn_D (k := 3) F sc_law_sums fun cdv Ar outer s H E hr => (dss_cons (ds_set (i := 4) sc_law_sums.nd rfl (Or.inl rfl) (de_new (dl_lst da_nil))) (dss_cons (ds_for (vs := [5]) (passes_of rfl) rfl (di_rg1 rfl T.b_range (de_fn k_law_draw hr (by decide) (takes_of rfl rfl rfl rfl) rfl rfl (da_cons (de_var 0 (pv 0)) (da_cons (de_bin op_addD (de_var 3 (pv 3)) de_int) da_nil)) (len_cons (len_cons len_nil)))) (pg_name (i := 5) sc_law_sums.nd rfl (Or.inl rfl)) (tg_name (by decide)) (dss_cons (ds_set (i := 6) sc_law_sums.nd rfl (Or.inl rfl) (de_ifExp (PW.pt (dw_and (dt_cmp op_gtD (de_callB (ca_len rfl) rfl T.b_len bt_len (da_cons (de_var 4 (pv 4)) da_nil)) de_int (nomark _)) (dw_and1 (dt_cmp (op_eqDD (hu64_of hr)) (de_fn k_law_draw hr (by decide) (takes_of rfl rfl rfl rfl) rfl rfl (da_cons (de_var 0 (pv 0)) (da_cons de_int da_nil)) (len_cons (len_cons len_nil))) de_int (nomark _))))) (de_fn k_law_mixed hr (by decide) (takes_of rfl rfl rfl rfl) rfl rfl (da_cons (de_var 0 (pv 0)) (da_cons (de_var 1 (pv 1)) (da_cons (de_var 4 (pv 4)) da_nil))) (len_cons (len_cons (len_cons len_nil)))) de_non)) (dss_one (ds_expr (de_bm PySem.F.slot_list_append PySem.F.type_list_append md_append (de_var 4 (pv 4)) (da_cons (de_ifExp (dt_cmp op_isD (de_var 6 (pv 6)) de_non (nomark _)) (de_fn k_law_sum hr (by decide) (takes_of rfl rfl rfl rfl) rfl rfl (da_cons (de_var 0 (pv 0)) (da_cons (de_var 1 (pv 1)) (da_cons (de_var 2 (pv 2)) da_nil))) (len_cons (len_cons (len_cons len_nil)))) (de_var 6 (pv 6))) da_nil)))))) (dss_one (ds_ret (de_callTy (ca_tuple.both ca_tupleT) rfl T.b_tuple bt_tuple (da_cons (de_var 4 (pv 4)) da_nil))))))
theorem sc_is_integer : FnScope ["thing"] ["thing"] (defScope st_is_integer) := ⟨rfl, rfl, rfl, by decide +kernel, rfl, by decide +kernel, by decide +kernel⟩
theorem d_is_integer (T : Txt K mg A)  {f : Addr} {fd : FuncData} (F : Fun K "is_integer" "is_integer" st_is_integer f fd) : FnD P w K mg base 1 f fd ["thing"] (l_is_integer A) :=
  fn_D (k := 0) F sc_is_integer fun cdv Ar outer s H E hr => (dss_one (ds_ret (de_and (de_callB ca_isi rfl T.b_isinstance bt_isinstance (da_cons (de_var 0 (pv 0)) (da_cons (de_ty rfl T.b_int bt_int) da_nil))) (de_one (de_not (de_callB ca_isi rfl T.b_isinstance bt_isinstance (da_cons (de_var 0 (pv 0)) (da_cons (de_ty rfl T.b_bool bt_bool) da_nil))))))))
theorem sc_is_within : FnScope ["thing", "least", "most"] ["thing", "least", "most"] (defScope st_is_within) := ⟨rfl, rfl, rfl, by decide +kernel, rfl, by decide +kernel, by decide +kernel⟩
theorem d_is_within (T : Txt K mg A) (k_is_integer : Kn P w K mg base "is_integer" 1 ["thing"] (l_is_integer A)) {f : Addr} {fd : FuncData} (F : Fun K "is_within" "is_within" st_is_within f fd) : FnD P w K mg base 2 f fd ["thing", "least", "most"] (l_is_within A) :=
  fn_D (k := 1) F sc_is_within fun cdv Ar outer s H E hr => (dss_one (ds_ret (de_and (de_fn k_is_integer hr (by decide) (takes_of rfl rfl rfl rfl) rfl rfl (da_cons (de_var 0 (pv 0)) da_nil) (len_cons len_nil)) (de_one (de_chain op_leD op_leD (de_var 1 (pv 1)) (de_var 0 (pv 0)) (de_var 2 (pv 2)))))))
theorem sc_is_prime : FnScope ["thing", "other"] ["thing"] (defScope st_is_prime) := ⟨rfl, rfl, rfl, by decide +kernel, rfl, by decide +kernel, by decide +kernel⟩
theorem d_is_prime (T : Txt K mg A) (k_is_within : Kn P w K mg base "is_within" 2 ["thing", "least", "most"] (l_is_within A)) {f : Addr} {fd : FuncData} (F : Fun K "is_prime" "is_prime" st_is_prime f fd) : FnD P w K mg base 3 f fd ["thing"] (l_is_prime A) :=
  fn_D (k := 2) F sc_is_prime fun cdv Ar outer s H E hr => (dss_cons (ds_if (dt_not (dt_tru (de_fn k_is_within hr (by decide) (takes_of rfl rfl rfl rfl) rfl rfl (da_cons (de_var 0 (pv 0)) (da_cons (de_gi T.c_LEAST_PRIME rfl) (da_cons (de_gi T.c_MOST_PRIME rfl) da_nil))) (len_cons (len_cons (len_cons len_nil)))))) (dss_one (ds_ret de_bl)) dss_nil) (dss_one (ds_ret (de_callBF (ca_all rfl) rfl T.b_all bt_all (dl_lc (own := [("other", 1)]) rfl sc_is_prime.nd (tg_name (by decide)) (di_rg2 rfl T.b_range de_int (de_var 0 (pv 0))) (blkOk_by (by kernel_rfl)) (fun _ _ _ _ _ => (pg_name (i := 1) sc_is_prime.nd rfl (Or.inl rfl))) (fun _ _ _ _ _ => dts_nil) (fun _ _ _ _ _ => (de_cmp (op_neDD (hu64_of hr)) (de_bin op_modD (de_var 0 (pv 0)) (de_var 1 (pv 1))) de_int (nomark _))))))))
theorem sc_check_prime : FnScope ["prime"] ["prime"] (defScope st_check_prime) := ⟨rfl, rfl, rfl, by decide +kernel, rfl, by decide +kernel, by decide +kernel⟩
theorem d_check_prime (T : Txt K mg A) (k_is_prime : Kn P w K mg base "is_prime" 3 ["thing"] (l_is_prime A)) {f : Addr} {fd : FuncData} (F : Fun K "check_prime" "check_prime" st_check_prime f fd) : FnD P w K mg base 4 f fd ["prime"] (l_check_prime A) :=
  fn_D (k := 3) F sc_check_prime fun cdv Ar outer s H E hr => (dss_one (ds_if (dt_not (dt_tru (de_fn k_is_prime hr (by decide) (takes_of rfl rfl rfl rfl) rfl rfl (da_cons (de_var 0 (pv 0)) da_nil) (len_cons len_nil)))) (dss_one ds_never) dss_nil))
theorem sc_is_sum : FnScope ["prime", "thing", "value"] ["prime", "thing"] (defScope st_is_sum) := ⟨rfl, rfl, rfl, by decide +kernel, rfl, by decide +kernel, by decide +kernel⟩
theorem d_is_sum (T : Txt K mg A) (k_is_within : Kn P w K mg base "is_within" 2 ["thing", "least", "most"] (l_is_within A)) {f : Addr} {fd : FuncData} (F : Fun K "is_sum" "is_sum" st_is_sum f fd) : FnD P w K mg base 3 f fd ["prime", "thing"] (l_is_sum A) :=
  fn_D (k := 2) F sc_is_sum fun cdv Ar outer s H E hr => (dss_cons (ds_if (PW.pt (dw_or (dt_not (dt_val (de_callB ca_isi rfl T.b_isinstance bt_isinstance (da_cons (de_var 1 (pv 1)) (da_cons (de_ty rfl T.b_tuple bt_tuple) da_nil))))) (dw_or1 (dt_not (dt_chain op_leD op_leD de_int (de_callB (ca_len rfl) rfl T.b_len bt_len (da_cons (de_var 1 (pv 1)) da_nil)) (de_gi T.c_MOST_WIDTH rfl)))))) (dss_one (ds_ret de_bl)) dss_nil) (dss_one (ds_ret (de_and (de_callBF (ca_all rfl) rfl T.b_all bt_all (dl_lc (own := [("value", 2)]) rfl sc_is_sum.nd (tg_name (by decide)) (di_seq (de_var 1 (pv 1))) (blkOk_by (by kernel_rfl)) (fun _ _ _ _ _ => (pg_name (i := 2) sc_is_sum.nd rfl (Or.inl rfl))) (fun _ _ _ _ _ => dts_nil) (fun _ _ _ _ _ => (de_fn k_is_within hr (by decide) takes0 rfl rfl (da_cons (de_var 2 (pv 2)) (da_cons de_int (da_cons (de_bin op_subD (de_var 0 (pv 0)) de_int) da_nil))) (len_cons (len_cons (len_cons len_nil))))))) (de_one (de_callBF (ca_any rfl) rfl T.b_any bt_any (dl_lc (own := [("value", 2)]) rfl sc_is_sum.nd (tg_name (by decide)) (di_seq (de_var 1 (pv 1))) (blkOk_by (by kernel_rfl)) (fun _ _ _ _ _ => (pg_name (i := 2) sc_is_sum.nd rfl (Or.inl rfl))) (fun _ _ _ _ _ => dts_nil) (fun _ _ _ _ _ => (de_cmp (op_neDD (hu64_of hr)) (de_var 2 (pv 2)) de_int (nomark _))))))))))
theorem sc_are_sums : FnScope ["prime", "thing", "one"] ["prime", "thing"] (defScope st_are_sums) := ⟨rfl, rfl, rfl, by decide +kernel, rfl, by decide +kernel, by decide +kernel⟩
theorem d_are_sums (T : Txt K mg A) (k_is_sum : Kn P w K mg base "is_sum" 3 ["prime", "thing"] (l_is_sum A)) {f : Addr} {fd : FuncData} (F : Fun K "are_sums" "are_sums" st_are_sums f fd) : FnD P w K mg base 4 f fd ["prime", "thing"] (l_are_sums A) :=
  fn_D (k := 3) F sc_are_sums fun cdv Ar outer s H E hr => (dss_cons (ds_if (PW.pt (dw_or (dt_not (dt_val (de_callB ca_isi rfl T.b_isinstance bt_isinstance (da_cons (de_var 1 (pv 1)) (da_cons (de_ty rfl T.b_tuple bt_tuple) da_nil))))) (dw_or (dt_cmp op_gtD (de_callB (ca_len rfl) rfl T.b_len bt_len (da_cons (de_var 1 (pv 1)) da_nil)) (de_gi T.c_MOST_SUMS rfl) (nomark _)) (dw_or1 (dt_not (dt_val (de_callBF (ca_all rfl) rfl T.b_all bt_all (dl_lc (own := [("one", 2)]) rfl sc_are_sums.nd (tg_name (by decide)) (di_seq (de_var 1 (pv 1))) (blkOk_by (by kernel_rfl)) (fun _ _ _ _ _ => (pg_name (i := 2) sc_are_sums.nd rfl (Or.inl rfl))) (fun _ _ _ _ _ => dts_nil) (fun _ _ _ _ _ => (de_fn k_is_sum hr (by decide) takes0 rfl rfl (da_cons (de_var 0 (pv 0)) (da_cons (de_var 2 (pv 2)) da_nil)) (len_cons (len_cons len_nil)))))))))))) (dss_one (ds_ret de_bl)) dss_nil) (dss_one (ds_ret (de_callBF (ca_all rfl) rfl T.b_all bt_all (dl_lc (own := [("one", 2)]) rfl sc_are_sums.nd (tg_name (by decide)) (di_seq (de_var 1 (pv 1))) (blkOk_by (by kernel_rfl)) (fun _ _ _ _ _ => (pg_name (i := 2) sc_are_sums.nd rfl (Or.inl rfl))) (fun _ _ _ _ _ => dts_nil) (fun _ _ _ _ _ => (de_cmp (op_eqDD (hu64_of hr)) (de_callB (ca_len rfl) rfl T.b_len bt_len (da_cons (de_var 2 (pv 2)) da_nil)) (de_callB (ca_len rfl) rfl T.b_len bt_len (da_cons (de_ix (hu_of hr) (de_var 1 (pv 1)) de_int) da_nil)) (nomark _))))))))
theorem sc_check_sums : FnScope ["prime", "sums"] ["prime", "sums"] (defScope st_check_sums) := ⟨rfl, rfl, rfl, by decide +kernel, rfl, by decide +kernel, by decide +kernel⟩
theorem d_check_sums (T : Txt K mg A) (k_check_prime : Kn P w K mg base "check_prime" 4 ["prime"] (l_check_prime A)) (k_are_sums : Kn P w K mg base "are_sums" 4 ["prime", "thing"] (l_are_sums A)) {f : Addr} {fd : FuncData} (F : Fun K "check_sums" "check_sums" st_check_sums f fd) : FnD P w K mg base 5 f fd ["prime", "sums"] (l_check_sums A) :=
  fn_D (k := 4) F sc_check_sums fun cdv Ar outer s H E hr => (dss_cons (ds_expr (de_fn k_check_prime hr (by decide) (takes_of rfl rfl rfl rfl) rfl rfl (da_cons (de_var 0 (pv 0)) da_nil) (len_cons len_nil))) (dss_one (ds_if (dt_not (dt_tru (de_fn k_are_sums hr (by decide) (takes_of rfl rfl rfl rfl) rfl rfl (da_cons (de_var 0 (pv 0)) (da_cons (de_var 1 (pv 1)) da_nil)) (len_cons (len_cons len_nil))))) (dss_one ds_never) dss_nil)))
theorem sc_Steps_init : FnScope ["self", "prime"] ["self", "prime"] (defScope st_Steps_init) := ⟨rfl, rfl, rfl, by decide +kernel, rfl, by decide +kernel, by decide +kernel⟩
theorem d_Steps_init (T : Txt K mg A)  {f : Addr} {fd : FuncData} (F : Fun K "__init__" "Steps.__init__" st_Steps_init f fd) : FnD P w K mg base 1 f fd ["self", "prime"] (l_Steps_init A) :=
  fn_D (k := 0) F sc_Steps_init fun cdv Ar outer s H E hr => (dss_cons (ds_fld T.p_kept_prime (de_var 0 (pv 0)) (de_var 1 (pv 1))) (dss_one (ds_fld T.p_kept_rows (de_var 0 (pv 0)) (de_newD dk_empty))))
theorem sc_less_times : FnScope ["prime", "row", "times", "other", "one", "two"] ["prime", "row", "times", "other"] (defScope st_less_times) := ⟨rfl, rfl, rfl, by decide +kernel, rfl, by decide +kernel, by decide +kernel⟩
theorem d_less_times (T : Txt K mg A)  {f : Addr} {fd : FuncData} (F : Fun K "less_times" "less_times" st_less_times f fd) : FnD P w K mg base 1 f fd ["prime", "row", "times", "other"] (l_less_times A) :=
  fn_D (k := 0) F sc_less_times fun cdv Ar outer s H E hr => (dss_one (ds_ret (de_new (dl_lc (own := [("one", 4), ("two", 5)]) rfl sc_less_times.nd (tg_tup (tgs_cons (tg_name (by decide)) (tgs_cons (tg_name (by decide)) tgs_nil))) (di_zip rfl T.b_zip (de_var 1 (pv 1)) (de_var 3 (pv 3))) (blkOk_by (by kernel_rfl)) (fun _ _ _ _ _ => (pg_tup (n := 2) rfl (pgs_cons (pg_name (i := 4) sc_less_times.nd rfl (Or.inl rfl)) (pgs_cons (pg_name (i := 5) sc_less_times.nd rfl (Or.inl rfl)) pgs_nil)))) (fun _ _ _ _ _ => dts_nil) (fun _ _ _ _ _ => (de_bin op_modD (de_bin op_subD (de_var 4 (pv 4)) (de_bin op_mulD (de_var 2 (pv 2)) (de_var 5 (pv 5)))) (de_var 0 (pv 0))))))))
theorem sc_Steps_fallen : FnScope ["self", "row", "made", "place", "times", "own", "parts", "name"] ["self", "row", "made"] (defScope st_Steps_fallen) := ⟨rfl, rfl, rfl, by decide +kernel, rfl, by decide +kernel, by decide +kernel⟩
theorem d_Steps_fallen (T : Txt K mg A) (k_less_times : Kn P w K mg base "less_times" 1 ["prime", "row", "times", "other"] (l_less_times A)) {f : Addr} {fd : FuncData} (F : Fun K "fallen" "Steps.fallen" st_Steps_fallen f fd) : FnD P w K mg base 2 f fd ["self", "row", "made"] (l_Steps_fallen A) :=
  fn_D (k := 1) F sc_Steps_fallen fun cdv Ar outer s H E hr => (dss_cons (ds_par (i := 1) (j := 2) rfl sc_Steps_fallen.nd rfl rfl (by decide) rfl rfl (da_cons (de_new (dl_callTy (ca_list rfl) rfl T.b_list bt_list (da_cons (de_var 1 (pv 1)) da_nil))) (da_cons (de_newD (dk_dictOf rfl T.b_dict (de_var 2 (pv 2)))) da_nil)) rfl) (dss_cons (ds_for (vs := [3]) (passes_of rfl) rfl (di_seq (de_new (dl_callB (ca_srt rfl) rfl T.b_sorted bt_sorted (da_cons (de_fld T.p_kept_rows (de_var 0 (pv 0))) da_nil)))) (pg_name (i := 3) sc_Steps_fallen.nd rfl (Or.inl rfl)) (tg_name (by decide)) (dss_one (ds_if (dt_cmp (op_neDD (hu64_of hr)) (de_ix (hu_of hr) (de_var 1 (pv 1)) (de_var 3 (pv 3))) de_int (nomark _)) (dss_cons (ds_set (i := 4) sc_Steps_fallen.nd rfl (Or.inl rfl) (de_ix (hu_of hr) (de_var 1 (pv 1)) (de_var 3 (pv 3)))) (dss_cons (ds_asg (vs := [5, 6]) (de_ix (hu_of hr) (de_fld T.p_kept_rows (de_var 0 (pv 0))) (de_var 3 (pv 3))) (pg_tup (n := 2) rfl (pgs_cons (pg_name (i := 5) sc_Steps_fallen.nd rfl (Or.inl rfl)) (pgs_cons (pg_name (i := 6) sc_Steps_fallen.nd rfl (Or.inl rfl)) pgs_nil))) (tg_tup (tgs_cons (tg_name (by decide)) (tgs_cons (tg_name (by decide)) tgs_nil)))) (dss_cons (ds_set (i := 1) sc_Steps_fallen.nd rfl (Or.inl rfl) (de_fn k_less_times hr (by decide) (takes_of rfl rfl rfl rfl) rfl rfl (da_cons (de_fld T.p_kept_prime (de_var 0 (pv 0))) (da_cons (de_var 1 (pv 1)) (da_cons (de_var 4 (pv 4)) (da_cons (de_var 5 (pv 5)) da_nil)))) (len_cons (len_cons (len_cons (len_cons len_nil)))))) (dss_one (ds_lock (mo := (mVar 6)) (ds_for (vs := [7]) (passes_of rfl) rfl (di_keys (de_var 6 (pv 6))) (pg_name (i := 7) sc_Steps_fallen.nd rfl (Or.inl rfl)) (tg_name (by decide)) (dss_one (ds_setIx (hu_of hr) (de_bin op_modD (de_bin op_subD (de_get2 (hu_of hr) (de_var 2 (pv 2)) (de_var 7 (pv 7)) de_int) (de_bin op_mulD (de_var 4 (pv 4)) (de_ix (hu_of hr) (de_var 6 (pv 6)) (de_var 7 (pv 7))))) (de_fld T.p_kept_prime (de_var 0 (pv 0)))) (de_var 2 (pv 2)) (de_var 7 (pv 7)))))))))) dss_nil))) (dss_one (ds_ret (de_tup (da_cons (de_var 1 (pv 1)) (da_cons (de_var 2 (pv 2)) da_nil)))))))
theorem sc_first_place : FnScope ["row", "found", "place", "value"] ["row"] (defScope st_first_place) := ⟨rfl, rfl, rfl, by decide +kernel, rfl, by decide +kernel, by decide +kernel⟩
theorem d_first_place (T : Txt K mg A)  {f : Addr} {fd : FuncData} (F : Fun K "first_place" "first_place" st_first_place f fd) : FnD P w K mg base 1 f fd ["row"] (l_first_place A) :=
  fn_D (k := 0) F sc_first_place fun cdv Ar outer s H E hr => (dss_cons (ds_setLc (own := [("place", 2), ("value", 3)]) (i := 1) rfl sc_first_place.nd rfl rfl rfl (tg_tup (tgs_cons (tg_name (by decide)) (tgs_cons (tg_name (by decide)) tgs_nil))) (di_enum rfl T.b_enumerate (de_var 0 (pv 0))) (blkOk_by (by kernel_rfl)) (fun _ _ _ _ _ => (pg_tup (n := 2) rfl (pgs_cons (pg_name (i := 2) sc_first_place.nd rfl (Or.inl rfl)) (pgs_cons (pg_name (i := 3) sc_first_place.nd rfl (Or.inl rfl)) pgs_nil)))) (fun _ _ _ _ _ => (dts_one (dt_cmp (op_neDD (hu64_of hr)) (de_var 3 (pv 3)) de_int (nomark _)))) (fun _ _ _ _ _ => (de_var 2 (pv 2)))) (dss_one (ds_ret (de_ifExp (dt_cmp op_gtD (de_callB (ca_len rfl) rfl T.b_len bt_len (da_cons (de_var 1 (pv 1)) da_nil)) de_int (nomark _)) (de_ix (hu_of hr) (de_var 1 (pv 1)) de_int) de_non))))
theorem sc_inverse : FnScope ["prime", "value", "one"] ["prime", "value"] (defScope st_inverse) := ⟨rfl, rfl, rfl, by decide +kernel, rfl, by decide +kernel, by decide +kernel⟩
theorem d_inverse (T : Txt K mg A)  {f : Addr} {fd : FuncData} (F : Fun K "inverse" "inverse" st_inverse f fd) : FnD P w K mg base 1 f fd ["prime", "value"] (l_inverse A) :=
  fn_D (k := 0) F sc_inverse fun cdv Ar outer s H E hr => (dss_one (ds_ret (de_ix (hu_of hr) (de_new (dl_lc (own := [("one", 2)]) rfl sc_inverse.nd (tg_name (by decide)) (di_rg2 rfl T.b_range de_int (de_var 0 (pv 0))) (blkOk_by (by kernel_rfl)) (fun _ _ _ _ _ => (pg_name (i := 2) sc_inverse.nd rfl (Or.inl rfl))) (fun _ _ _ _ _ => (dts_one (dt_cmp (op_eqDD (hu64_of hr)) (de_bin op_modD (de_bin op_mulD (de_var 2 (pv 2)) (de_var 1 (pv 1))) (de_var 0 (pv 0))) de_int (nomark _)))) (fun _ _ _ _ _ => (de_var 2 (pv 2))))) de_int)))
theorem sc_Steps_cleared : FnScope ["self", "pair", "place", "left", "made", "own", "parts", "many", "one"] ["self", "pair", "place", "left", "made"] (defScope st_Steps_cleared) := ⟨rfl, rfl, rfl, by decide +kernel, rfl, by decide +kernel, by decide +kernel⟩
theorem d_Steps_cleared (T : Txt K mg A) (k_less_times : Kn P w K mg base "less_times" 1 ["prime", "row", "times", "other"] (l_less_times A)) {f : Addr} {fd : FuncData} (F : Fun K "cleared" "Steps.cleared" st_Steps_cleared f fd) : FnD P w K mg base 2 f fd ["self", "pair", "place", "left", "made"] (l_Steps_cleared A) :=
  fn_D (k := 1) F sc_Steps_cleared fun cdv Ar outer s H E hr => (dss_cons (ds_par (i := 5) (j := 6) rfl sc_Steps_cleared.nd rfl rfl (by decide) rfl rfl (da_cons (de_ix (hu_of hr) (de_var 1 (pv 1)) de_int) (da_cons (de_newD (dk_dictOf rfl T.b_dict (de_ix (hu_of hr) (de_var 1 (pv 1)) de_int))) da_nil)) rfl) (dss_cons (ds_set (i := 7) sc_Steps_cleared.nd rfl (Or.inl rfl) (de_ix (hu_of hr) (de_var 5 (pv 5)) (de_var 2 (pv 2)))) (dss_cons (ds_lock (mo := (mVar 4)) (ds_for (vs := [8]) (passes_of rfl) rfl (di_keys (de_var 4 (pv 4))) (pg_name (i := 8) sc_Steps_cleared.nd rfl (Or.inl rfl)) (tg_name (by decide)) (dss_one (ds_setIx (hu_of hr) (de_bin op_modD (de_bin op_subD (de_get2 (hu_of hr) (de_var 6 (pv 6)) (de_var 8 (pv 8)) de_int) (de_bin op_mulD (de_var 7 (pv 7)) (de_ix (hu_of hr) (de_var 4 (pv 4)) (de_var 8 (pv 8))))) (de_fld T.p_kept_prime (de_var 0 (pv 0)))) (de_var 6 (pv 6)) (de_var 8 (pv 8)))))) (dss_one (ds_ret (de_tup (da_cons (de_fn k_less_times hr (by decide) (takes_of rfl rfl rfl rfl) rfl rfl (da_cons (de_fld T.p_kept_prime (de_var 0 (pv 0))) (da_cons (de_var 5 (pv 5)) (da_cons (de_var 7 (pv 7)) (da_cons (de_var 3 (pv 3)) da_nil)))) (len_cons (len_cons (len_cons (len_cons len_nil))))) (da_cons (de_var 6 (pv 6)) da_nil))))))))
theorem sc_Steps_take : FnScope ["self", "name", "row", "left", "made", "place", "times", "rows", "other", "value", "one"] ["self", "name", "row"] (defScope st_Steps_take) := ⟨rfl, rfl, rfl, by decide +kernel, rfl, by decide +kernel, by decide +kernel⟩
theorem d_Steps_take (T : Txt K mg A) (k_Steps_fallen : Km P w K mg base (A "Steps") "fallen" 2 ["self", "row", "made"] (l_Steps_fallen A)) (k_first_place : Kn P w K mg base "first_place" 1 ["row"] (l_first_place A)) (k_inverse : Kn P w K mg base "inverse" 1 ["prime", "value"] (l_inverse A)) (k_Steps_cleared : Km P w K mg base (A "Steps") "cleared" 2 ["self", "pair", "place", "left", "made"] (l_Steps_cleared A)) {f : Addr} {fd : FuncData} (F : Fun K "take" "Steps.take" st_Steps_take f fd) : FnD P w K mg base 3 f fd ["self", "name", "row"] (l_Steps_take A) :=
  fn_D (k := 2) F sc_Steps_take fun cdv Ar outer s H E hr => (dss_cons (ds_asg (vs := [3, 4]) (de_mt (de_var 0 (pv 0)) T.k_Steps k_Steps_fallen hr (by decide) (takes_of rfl rfl rfl rfl) (da_cons (de_var 2 (pv 2)) (da_cons (de_newD (dk_disp (dps_cons (de_var 1 (pv 1)) de_int dps_nil))) da_nil)) (fun r s ds s2 e => congrArg (· + 1) ((len_cons (len_cons len_nil)) r s ds s2 e))) (pg_tup (n := 2) rfl (pgs_cons (pg_name (i := 3) sc_Steps_take.nd rfl (Or.inl rfl)) (pgs_cons (pg_name (i := 4) sc_Steps_take.nd rfl (Or.inr rfl)) pgs_nil))) (tg_tup (tgs_cons (tg_name (by decide)) (tgs_cons (tg_name (by decide)) tgs_nil)))) (dss_cons (ds_set (i := 5) sc_Steps_take.nd rfl (Or.inl rfl) (de_fn k_first_place hr (by decide) (takes_of rfl rfl rfl rfl) rfl rfl (da_cons (de_var 3 (pv 3)) da_nil) (len_cons len_nil))) (dss_cons (ds_if (dt_cmp op_isD (de_var 5 (pv 5)) de_non (nomark _)) (dss_one (ds_ret de_bl)) dss_nil) (dss_cons (ds_set (i := 6) sc_Steps_take.nd rfl (Or.inr rfl) (de_fn k_inverse hr (by decide) (takes_of rfl rfl rfl rfl) rfl rfl (da_cons (de_fld T.p_kept_prime (de_var 0 (pv 0))) (da_cons (de_ix (hu_of hr) (de_var 3 (pv 3)) (de_var 5 (pv 5))) da_nil)) (len_cons (len_cons len_nil)))) (dss_cons (ds_setLc (own := [("value", 9)]) (i := 3) rfl sc_Steps_take.nd rfl rfl rfl (tg_name (by decide)) (di_seq (de_var 3 (pv 3))) (blkOk_by (by kernel_rfl)) (fun _ _ _ _ _ => (pg_name (i := 9) sc_Steps_take.nd rfl (Or.inl rfl))) (fun _ _ _ _ _ => dts_nil) (fun _ _ _ _ _ => (de_bin op_modD (de_bin op_mulD (de_var 9 (pv 9)) (de_var 6 (pv 6))) (de_fld T.p_kept_prime (de_var 0 (pv 0)))))) (dss_cons (ds_set (i := 4) sc_Steps_take.nd rfl (Or.inr rfl) (de_newD (dk_lock (mo := (mVar 4)) (dk_dc (own := [("one", 10)]) rfl sc_Steps_take.nd (tg_name (by decide)) (di_keys (de_var 4 (pv 4))) (blkOk_by (by kernel_rfl)) (fun _ _ _ _ _ => (pg_name (i := 10) sc_Steps_take.nd rfl (Or.inl rfl))) (fun _ _ _ _ _ => dts_nil) (fun _ _ _ _ _ => (de_var 10 (pv 10))) (fun _ _ _ _ _ => (de_bin op_modD (de_bin op_mulD (de_ix (hu_of hr) (de_var 4 (pv 4)) (de_var 10 (pv 10))) (de_var 6 (pv 6))) (de_fld T.p_kept_prime (de_var 0 (pv 0))))))))) (dss_cons (ds_set (i := 7) sc_Steps_take.nd rfl (Or.inl rfl) (de_newD (dk_disp (dps_cons (de_var 5 (pv 5)) (de_tup (da_cons (de_var 3 (pv 3)) (da_cons (de_var 4 (pv 4)) da_nil))) dps_nil)))) (dss_cons (ds_lock (mo := (mFld [A "Steps"] "kept_rows" (mVar 0))) (ds_for (vs := [8]) (passes_of rfl) rfl (di_keys (de_fld T.p_kept_rows (de_var 0 (pv 0)))) (pg_name (i := 8) sc_Steps_take.nd rfl (Or.inl rfl)) (tg_name (by decide)) (dss_one (ds_setIx (hu_of hr) (de_mt (de_var 0 (pv 0)) T.k_Steps k_Steps_cleared hr (by decide) (takes_of rfl rfl rfl rfl) (da_cons (de_ix (hu_of hr) (de_fld T.p_kept_rows (de_var 0 (pv 0))) (de_var 8 (pv 8))) (da_cons (de_var 5 (pv 5)) (da_cons (de_var 3 (pv 3)) (da_cons (de_var 4 (pv 4)) da_nil)))) (fun r s ds s2 e => congrArg (· + 1) ((len_cons (len_cons (len_cons (len_cons len_nil)))) r s ds s2 e))) (de_var 7 (pv 7)) (de_var 8 (pv 8)))))) (dss_cons (ds_fld T.p_kept_rows (de_var 0 (pv 0)) (de_var 7 (pv 7))) (dss_one (ds_ret de_bl)))))))))))
theorem sc_steps_of : FnScope ["prime", "sums", "steps", "number", "one"] ["prime", "sums"] (defScope st_steps_of) := ⟨rfl, rfl, rfl, by decide +kernel, rfl, by decide +kernel, by decide +kernel⟩
theorem d_steps_of (T : Txt K mg A) (k_Steps_init : Kc P w K mg base "Steps" (A "Steps") 1 ["self", "prime"] (l_Steps_init A)) (k_Steps_take : Km P w K mg base (A "Steps") "take" 3 ["self", "name", "row"] (l_Steps_take A)) {f : Addr} {fd : FuncData} (F : Fun K "steps_of" "steps_of" st_steps_of f fd) : FnD P w K mg base 4 f fd ["prime", "sums"] (l_steps_of A) :=
  fn_D (k := 3) F sc_steps_of fun cdv Ar outer s H E hr => (dss_cons (ds_set (i := 2) sc_steps_of.nd rfl (Or.inl rfl) (de_mk k_Steps_init hr (by decide) (takes_of rfl rfl rfl rfl) rfl (da_cons (de_var 0 (pv 0)) da_nil) (fun r s ds s2 e => congrArg (· + 1) ((len_cons len_nil) r s ds s2 e)))) (dss_cons (ds_for (vs := [3, 4]) (passes_of rfl) rfl (di_enum rfl T.b_enumerate (de_var 1 (pv 1))) (pg_tup (n := 2) rfl (pgs_cons (pg_name (i := 3) sc_steps_of.nd rfl (Or.inl rfl)) (pgs_cons (pg_name (i := 4) sc_steps_of.nd rfl (Or.inl rfl)) pgs_nil))) (tg_tup (tgs_cons (tg_name (by decide)) (tgs_cons (tg_name (by decide)) tgs_nil))) (dss_one (ds_expr (de_mt (de_var 2 (pv 2)) T.k_Steps k_Steps_take hr (by decide) (takes_of rfl rfl rfl rfl) (da_cons (de_var 3 (pv 3)) (da_cons (de_var 4 (pv 4)) da_nil)) (fun r s ds s2 e => congrArg (· + 1) ((len_cons (len_cons len_nil)) r s ds s2 e)))))) (dss_one (ds_ret (de_var 2 (pv 2))))))
theorem sc_ladder_of : FnScope ["prime", "sums", "rows", "place"] ["prime", "sums"] (defScope st_ladder_of) := ⟨rfl, rfl, rfl, by decide +kernel, rfl, by decide +kernel, by decide +kernel⟩
theorem d_ladder_of (T : Txt K mg A) (k_steps_of : Kn P w K mg base "steps_of" 4 ["prime", "sums"] (l_steps_of A)) {f : Addr} {fd : FuncData} (F : Fun K "ladder_of" "ladder_of" st_ladder_of f fd) : FnD P w K mg base 5 f fd ["prime", "sums"] (l_ladder_of A) :=
  fn_D (k := 4) F sc_ladder_of fun cdv Ar outer s H E hr => (dss_cons (ds_set (i := 2) sc_ladder_of.nd rfl (Or.inr rfl) (de_fld T.p_kept_rows (de_fn k_steps_of hr (by decide) (takes_of rfl rfl rfl rfl) rfl rfl (da_cons (de_var 0 (pv 0)) (da_cons (de_var 1 (pv 1)) da_nil)) (len_cons (len_cons len_nil))))) (dss_one (ds_ret (de_callTyF ca_tuple rfl T.b_tuple bt_tuple (dl_lc (own := [("place", 3)]) rfl sc_ladder_of.nd (tg_name (by decide)) (di_seq (de_new (dl_callB (ca_srt rfl) rfl T.b_sorted bt_sorted (da_cons (de_var 2 (pv 2)) da_nil)))) (blkOk_by (by kernel_rfl)) (fun _ _ _ _ _ => (pg_name (i := 3) sc_ladder_of.nd rfl (Or.inl rfl))) (fun _ _ _ _ _ => dts_nil) (fun _ _ _ _ _ => (de_callTy (ca_tuple.both ca_tupleT) rfl T.b_tuple bt_tuple (da_cons (de_ix (hu_of hr) (de_ix (hu_of hr) (de_var 2 (pv 2)) (de_var 3 (pv 3))) de_int) da_nil))))))))
theorem sc_ladder : FnScope ["prime", "sums"] ["prime", "sums"] (defScope st_ladder) := ⟨rfl, rfl, rfl, by decide +kernel, rfl, by decide +kernel, by decide +kernel⟩
theorem d_ladder (T : Txt K mg A) (k_check_sums : Kn P w K mg base "check_sums" 5 ["prime", "sums"] (l_check_sums A)) (k_ladder_of : Kn P w K mg base "ladder_of" 5 ["prime", "sums"] (l_ladder_of A)) {f : Addr} {fd : FuncData} (F : Fun K "ladder" "ladder" st_ladder f fd) : FnD P w K mg base 6 f fd ["prime", "sums"] (l_ladder A) :=
  fn_D (k := 5) F sc_ladder fun cdv Ar outer s H E hr => (dss_cons (ds_expr (de_fn k_check_sums hr (by decide) (takes_of rfl rfl rfl rfl) rfl rfl (da_cons (de_var 0 (pv 0)) (da_cons (de_var 1 (pv 1)) da_nil)) (len_cons (len_cons len_nil)))) (dss_one (ds_ret (de_fn k_ladder_of hr (by decide) (takes_of rfl rfl rfl rfl) rfl rfl (da_cons (de_var 0 (pv 0)) (da_cons (de_var 1 (pv 1)) da_nil)) (len_cons (len_cons len_nil))))))
theorem sc_law_times : FnScope ["_law_prime_here", "_law_row", "_law_times_here", "_law_other", "_law_one", "_law_two"] ["_law_prime_here", "_law_row", "_law_times_here", "_law_other"] (defScope st_law_times) := ⟨rfl, rfl, rfl, by decide +kernel, rfl, by decide +kernel, by decide +kernel⟩
theorem d_law_times (T : Txt K mg A)  {f : Addr} {fd : FuncData} (F : Fun K "_law_times" "_law_times" st_law_times f fd) : FnD P w K mg base 1 f fd ["_law_prime_here", "_law_row", "_law_times_here", "_law_other"] (l_law_times A) :=
  fn_D (k := 0) F sc_law_times fun cdv Ar outer s H E hr => (dss_one (ds_ret (de_new (dl_lc (own := [("_law_one", 4), ("_law_two", 5)]) rfl sc_law_times.nd (tg_tup (tgs_cons (tg_name (by decide)) (tgs_cons (tg_name (by decide)) tgs_nil))) (di_zip rfl T.b_zip (de_var 1 (pv 1)) (de_var 3 (pv 3))) (blkOk_by (by kernel_rfl)) (fun _ _ _ _ _ => (pg_tup (n := 2) rfl (pgs_cons (pg_name (i := 4) sc_law_times.nd rfl (Or.inl rfl)) (pgs_cons (pg_name (i := 5) sc_law_times.nd rfl (Or.inl rfl)) pgs_nil)))) (fun _ _ _ _ _ => dts_nil) (fun _ _ _ _ _ => (de_bin op_modD (de_callTy ca_int rfl T.b_int bt_int (da_cons (de_bin op_addD (de_var 4 (pv 4)) (de_bin op_mulD (de_var 2 (pv 2)) (de_var 5 (pv 5)))) da_nil)) (de_var 0 (pv 0))))))))
theorem sc_law_fallen : FnScope ["_law_prime_here", "_law_steps", "_law_row", "_law_place", "_law_own"] ["_law_prime_here", "_law_steps", "_law_row"] (defScope st_law_fallen) := ⟨rfl, rfl, rfl, by decide +kernel, rfl, by decide +kernel, by decide +kernel⟩
theorem d_law_fallen (T : Txt K mg A) (k_law_times : Kn P w K mg base "_law_times" 1 ["_law_prime_here", "_law_row", "_law_times_here", "_law_other"] (l_law_times A)) {f : Addr} {fd : FuncData} (F : Fun K "_law_fallen" "_law_fallen" st_law_fallen f fd) : FnD P w K mg base 2 f fd ["_law_prime_here", "_law_steps", "_law_row"] (l_law_fallen A) :=
  fn_D (k := 1) F sc_law_fallen fun cdv Ar outer s H E hr => (dss_cons (ds_set (i := 2) sc_law_fallen.nd rfl (Or.inl rfl) (de_new (dl_callTy (ca_list rfl) rfl T.b_list bt_list (da_cons (de_var 2 (pv 2)) da_nil)))) (dss_cons (ds_for (vs := [3, 4]) (passes_of rfl) rfl (di_seq (de_new (dl_callB (ca_srt rfl) rfl T.b_sorted bt_sorted (da_cons (de_var 1 (pv 1)) da_nil)))) (pg_tup (n := 2) rfl (pgs_cons (pg_name (i := 3) sc_law_fallen.nd rfl (Or.inl rfl)) (pgs_cons (pg_name (i := 4) sc_law_fallen.nd rfl (Or.inl rfl)) pgs_nil))) (tg_tup (tgs_cons (tg_name (by decide)) (tgs_cons (tg_name (by decide)) tgs_nil))) (dss_one (ds_if (dt_cmp (op_neDD (hu64_of hr)) (de_ix (hu_of hr) (de_var 2 (pv 2)) (de_var 3 (pv 3))) de_int (nomark _)) (dss_one (ds_set (i := 2) sc_law_fallen.nd rfl (Or.inl rfl) (de_fn k_law_times hr (by decide) (takes_of rfl rfl rfl rfl) rfl rfl (da_cons (de_var 0 (pv 0)) (da_cons (de_var 2 (pv 2)) (da_cons (de_bin op_subD (de_var 0 (pv 0)) (de_ix (hu_of hr) (de_var 2 (pv 2)) (de_var 3 (pv 3)))) (da_cons (de_var 4 (pv 4)) da_nil)))) (len_cons (len_cons (len_cons (len_cons len_nil))))))) dss_nil))) (dss_one (ds_ret (de_var 2 (pv 2))))))
theorem sc_law_inverse : FnScope ["_law_prime_here", "_law_value", "_law_one"] ["_law_prime_here", "_law_value"] (defScope st_law_inverse) := ⟨rfl, rfl, rfl, by decide +kernel, rfl, by decide +kernel, by decide +kernel⟩
theorem d_law_inverse (T : Txt K mg A)  {f : Addr} {fd : FuncData} (F : Fun K "_law_inverse" "_law_inverse" st_law_inverse f fd) : FnD P w K mg base 1 f fd ["_law_prime_here", "_law_value"] (l_law_inverse A) :=
  fn_D (k := 0) F sc_law_inverse fun cdv Ar outer s H E hr => (dss_one (ds_ret (de_ix (hu_of hr) (de_new (dl_lc (own := [("_law_one", 2)]) rfl sc_law_inverse.nd (tg_name (by decide)) (di_rg2 rfl T.b_range de_int (de_var 0 (pv 0))) (blkOk_by (by kernel_rfl)) (fun _ _ _ _ _ => (pg_name (i := 2) sc_law_inverse.nd rfl (Or.inl rfl))) (fun _ _ _ _ _ => (dts_one (dt_cmp (op_eqDD (hu64_of hr)) (de_bin op_modD (de_callTy ca_int rfl T.b_int bt_int (da_cons (de_bin op_mulD (de_var 2 (pv 2)) (de_var 1 (pv 1))) da_nil)) (de_var 0 (pv 0))) de_int (nomark _)))) (fun _ _ _ _ _ => (de_var 2 (pv 2))))) de_int)))
theorem sc_law_taken : FnScope ["_law_prime_here", "_law_sums_here", "_law_found", "_law_steps", "_law_number", "_law_one", "_law_left", "_law_places", "_law_times_here", "_law_place", "_law_value"] ["_law_prime_here", "_law_sums_here"] (defScope st_law_taken) := ⟨rfl, rfl, rfl, by decide +kernel, rfl, by decide +kernel, by decide +kernel⟩
theorem d_law_taken (T : Txt K mg A) (k_law_fallen : Kn P w K mg base "_law_fallen" 2 ["_law_prime_here", "_law_steps", "_law_row"] (l_law_fallen A)) (k_law_inverse : Kn P w K mg base "_law_inverse" 1 ["_law_prime_here", "_law_value"] (l_law_inverse A)) {f : Addr} {fd : FuncData} (F : Fun K "_law_taken" "_law_taken" st_law_taken f fd) : FnD P w K mg base 3 f fd ["_law_prime_here", "_law_sums_here"] (l_law_taken A) :=
  fn_D (k := 2) F sc_law_taken fun cdv Ar outer s H E hr => (dss_cons (ds_par (i := 2) (j := 3) rfl sc_law_taken.nd rfl rfl (by decide) rfl rfl (da_cons (de_new (dl_lst da_nil)) (da_cons (de_new (dl_lst da_nil)) da_nil)) rfl) (dss_cons (ds_for (vs := [4, 5]) (passes_of rfl) rfl (di_enum rfl T.b_enumerate (de_var 1 (pv 1))) (pg_tup (n := 2) rfl (pgs_cons (pg_name (i := 4) sc_law_taken.nd rfl (Or.inl rfl)) (pgs_cons (pg_name (i := 5) sc_law_taken.nd rfl (Or.inl rfl)) pgs_nil))) (tg_tup (tgs_cons (tg_name (by decide)) (tgs_cons (tg_name (by decide)) tgs_nil))) (dss_cons (ds_set (i := 6) sc_law_taken.nd rfl (Or.inl rfl) (de_fn k_law_fallen hr (by decide) (takes_of rfl rfl rfl rfl) rfl rfl (da_cons (de_var 0 (pv 0)) (da_cons (de_var 3 (pv 3)) (da_cons (de_var 5 (pv 5)) da_nil))) (len_cons (len_cons (len_cons len_nil))))) (dss_cons (ds_setLc (own := [("_law_place", 9), ("_law_value", 10)]) (i := 7) rfl sc_law_taken.nd rfl rfl rfl (tg_tup (tgs_cons (tg_name (by decide)) (tgs_cons (tg_name (by decide)) tgs_nil))) (di_enum rfl T.b_enumerate (de_var 6 (pv 6))) (blkOk_by (by kernel_rfl)) (fun _ _ _ _ _ => (pg_tup (n := 2) rfl (pgs_cons (pg_name (i := 9) sc_law_taken.nd rfl (Or.inl rfl)) (pgs_cons (pg_name (i := 10) sc_law_taken.nd rfl (Or.inl rfl)) pgs_nil)))) (fun _ _ _ _ _ => (dts_one (dt_cmp (op_neDD (hu64_of hr)) (de_var 10 (pv 10)) de_int (nomark _)))) (fun _ _ _ _ _ => (de_var 9 (pv 9)))) (dss_one (ds_if (dt_cmp op_gtD (de_callB (ca_len rfl) rfl T.b_len bt_len (da_cons (de_var 7 (pv 7)) da_nil)) de_int (nomark _)) (dss_cons (ds_set (i := 8) sc_law_taken.nd rfl (Or.inr rfl) (de_fn k_law_inverse hr (by decide) (takes_of rfl rfl rfl rfl) rfl rfl (da_cons (de_var 0 (pv 0)) (da_cons (de_ix (hu_of hr) (de_var 6 (pv 6)) (de_ix (hu_of hr) (de_var 7 (pv 7)) de_int)) da_nil)) (len_cons (len_cons len_nil)))) (dss_cons (ds_expr (de_bm PySem.F.slot_list_append PySem.F.type_list_append md_append (de_var 3 (pv 3)) (da_cons (de_tup (da_cons (de_ix (hu_of hr) (de_var 7 (pv 7)) de_int) (da_cons (de_new (dl_lc (own := [("_law_value", 10)]) rfl sc_law_taken.nd (tg_name (by decide)) (di_seq (de_var 6 (pv 6))) (blkOk_by (by kernel_rfl)) (fun _ _ _ _ _ => (pg_name (i := 10) sc_law_taken.nd rfl (Or.inl rfl))) (fun _ _ _ _ _ => dts_nil) (fun _ _ _ _ _ => (de_bin op_modD (de_callTy ca_int rfl T.b_int bt_int (da_cons (de_bin op_mulD (de_var 8 (pv 8)) (de_var 10 (pv 10))) da_nil)) (de_var 0 (pv 0)))))) da_nil))) da_nil))) (dss_one (ds_expr (de_bm PySem.F.slot_list_append PySem.F.type_list_append md_append (de_var 2 (pv 2)) (da_cons (de_var 4 (pv 4)) da_nil)))))) dss_nil))))) (dss_one (ds_ret (de_tup (da_cons (de_var 2 (pv 2)) (da_cons (de_var 3 (pv 3)) da_nil)))))))
theorem sc_law_ladder : FnScope ["_law_prime_here", "_law_sums_here", "_law_rows", "_law_places", "_law_here", "_law_other", "_law_place", "_law_row"] ["_law_prime_here", "_law_sums_here"] (defScope st_law_ladder) := ⟨rfl, rfl, rfl, by decide +kernel, rfl, by decide +kernel, by decide +kernel⟩
theorem d_law_ladder (T : Txt K mg A) (k_law_taken : Kn P w K mg base "_law_taken" 3 ["_law_prime_here", "_law_sums_here"] (l_law_taken A)) (k_law_times : Kn P w K mg base "_law_times" 1 ["_law_prime_here", "_law_row", "_law_times_here", "_law_other"] (l_law_times A)) {f : Addr} {fd : FuncData} (F : Fun K "_law_ladder" "_law_ladder" st_law_ladder f fd) : FnD P w K mg base 4 f fd ["_law_prime_here", "_law_sums_here"] (l_law_ladder A) :=
  fn_D (k := 3) F sc_law_ladder fun cdv Ar outer s H E hr => (dss_cons (ds_setLc (own := [("_law_place", 6), ("_law_row", 7)]) (i := 2) rfl sc_law_ladder.nd rfl rfl rfl (tg_tup (tgs_cons (tg_name (by decide)) (tgs_cons (tg_name (by decide)) tgs_nil))) (di_seq (de_new (dl_callB (ca_srt rfl) rfl T.b_sorted bt_sorted (da_cons (de_ix (hu_of hr) (de_fn k_law_taken hr (by decide) (takes_of rfl rfl rfl rfl) rfl rfl (da_cons (de_var 0 (pv 0)) (da_cons (de_var 1 (pv 1)) da_nil)) (len_cons (len_cons len_nil))) de_int) da_nil)))) (blkOk_by (by kernel_rfl)) (fun _ _ _ _ _ => (pg_tup (n := 2) rfl (pgs_cons (pg_name (i := 6) sc_law_ladder.nd rfl (Or.inl rfl)) (pgs_cons (pg_name (i := 7) sc_law_ladder.nd rfl (Or.inl rfl)) pgs_nil)))) (fun _ _ _ _ _ => dts_nil) (fun _ _ _ _ _ => (de_new (dl_callTy (ca_list rfl) rfl T.b_list bt_list (da_cons (de_var 7 (pv 7)) da_nil))))) (dss_cons (ds_setLc (own := [("_law_place", 6), ("_law_row", 7)]) (i := 3) rfl sc_law_ladder.nd rfl rfl rfl (tg_tup (tgs_cons (tg_name (by decide)) (tgs_cons (tg_name (by decide)) tgs_nil))) (di_seq (de_new (dl_callB (ca_srt rfl) rfl T.b_sorted bt_sorted (da_cons (de_ix (hu_of hr) (de_fn k_law_taken hr (by decide) (takes_of rfl rfl rfl rfl) rfl rfl (da_cons (de_var 0 (pv 0)) (da_cons (de_var 1 (pv 1)) da_nil)) (len_cons (len_cons len_nil))) de_int) da_nil)))) (blkOk_by (by kernel_rfl)) (fun _ _ _ _ _ => (pg_tup (n := 2) rfl (pgs_cons (pg_name (i := 6) sc_law_ladder.nd rfl (Or.inl rfl)) (pgs_cons (pg_name (i := 7) sc_law_ladder.nd rfl (Or.inl rfl)) pgs_nil)))) (fun _ _ _ _ _ => dts_nil) (fun _ _ _ _ _ => (de_var 6 (pv 6)))) (dss_cons (ds_for (vs := [4]) (passes_of rfl) rfl (di_rg1 rfl T.b_range (de_callB (ca_len rfl) rfl T.b_len bt_len (da_cons (de_var 2 (pv 2)) da_nil))) (pg_name (i := 4) sc_law_ladder.nd rfl (Or.inl rfl)) (tg_name (by decide)) (dss_one (ds_for (vs := [5]) (passes_of rfl) rfl (di_rg1 rfl T.b_range (de_callB (ca_len rfl) rfl T.b_len bt_len (da_cons (de_var 2 (pv 2)) da_nil))) (pg_name (i := 5) sc_law_ladder.nd rfl (Or.inl rfl)) (tg_name (by decide)) (dss_one (ds_if (PW.pt (dw_and (dt_cmp (op_neDD (hu64_of hr)) (de_var 5 (pv 5)) (de_var 4 (pv 4)) (nomark _)) (dw_and1 (dt_cmp (op_neDD (hu64_of hr)) (de_ix (hu_of hr) (de_ix (hu_of hr) (de_var 2 (pv 2)) (de_var 5 (pv 5))) (de_ix (hu_of hr) (de_var 3 (pv 3)) (de_var 4 (pv 4)))) de_int (nomark _))))) (dss_one (ds_setIx (hu_of hr) (de_fn k_law_times hr (by decide) (takes_of rfl rfl rfl rfl) rfl rfl (da_cons (de_var 0 (pv 0)) (da_cons (de_ix (hu_of hr) (de_var 2 (pv 2)) (de_var 5 (pv 5))) (da_cons (de_bin op_subD (de_var 0 (pv 0)) (de_ix (hu_of hr) (de_ix (hu_of hr) (de_var 2 (pv 2)) (de_var 5 (pv 5))) (de_ix (hu_of hr) (de_var 3 (pv 3)) (de_var 4 (pv 4))))) (da_cons (de_ix (hu_of hr) (de_var 2 (pv 2)) (de_var 4 (pv 4))) da_nil)))) (len_cons (len_cons (len_cons (len_cons len_nil))))) (de_var 2 (pv 2)) (de_var 5 (pv 5)))) dss_nil))))) (dss_one (ds_ret (de_callTyF ca_tuple rfl T.b_tuple bt_tuple (dl_lc (own := [("_law_row", 7)]) rfl sc_law_ladder.nd (tg_name (by decide)) (di_seq (de_var 2 (pv 2))) (blkOk_by (by kernel_rfl)) (fun _ _ _ _ _ => (pg_name (i := 7) sc_law_ladder.nd rfl (Or.inl rfl))) (fun _ _ _ _ _ => dts_nil) (fun _ _ _ _ _ => (de_callTy (ca_tuple.both ca_tupleT) rfl T.b_tuple bt_tuple (da_cons (de_var 7 (pv 7)) da_nil))))))))))
theorem sc_law_turned : FnScope ["_law_hand_here", "_law_things", "_law_left", "_law_found"] ["_law_hand_here", "_law_things"] (defScope st_law_turned) := ⟨rfl, rfl, rfl, by decide +kernel, rfl, by decide +kernel, by decide +kernel⟩
theorem d_law_turned (T : Txt K mg A) (k_law_draw : Kn P w K mg base "_law_draw" 1 ["_law_hand_here", "_law_many"] (l_law_draw A)) {f : Addr} {fd : FuncData} (F : Fun K "_law_turned" "_law_turned" st_law_turned f fd) : FnD P w K mg base 2 f fd ["_law_hand_here", "_law_things"] (l_law_turned A) :=
  fn_D (k := 1) F sc_law_turned fun cdv Ar outer s H E hr => (dss_cons (ds_par (i := 2) (j := 3) rfl sc_law_turned.nd rfl rfl (by decide) rfl rfl (da_cons (de_new (dl_callTy (ca_list rfl) rfl T.b_list bt_list (da_cons (de_var 1 (pv 1)) da_nil))) (da_cons (de_new (dl_lst da_nil)) da_nil)) rfl) (dss_cons (ds_while (passes_of rfl) (dt_cmp op_gtD (de_callB (ca_len rfl) rfl T.b_len bt_len (da_cons (de_var 2 (pv 2)) da_nil)) de_int (nomark _)) (dss_one (ds_expr (de_bm PySem.F.slot_list_append PySem.F.type_list_append md_append (de_var 3 (pv 3)) (da_cons (de_bm PySem.F.slot_list_pop PySem.F.type_list_pop md_pop (de_var 2 (pv 2)) (da_cons (de_fn k_law_draw hr (by decide) (takes_of rfl rfl rfl rfl) rfl rfl (da_cons (de_var 0 (pv 0)) (da_cons (de_callB (ca_len rfl) rfl T.b_len bt_len (da_cons (de_var 2 (pv 2)) da_nil)) da_nil)) (len_cons (len_cons len_nil))) da_nil)) da_nil))))) (dss_one (ds_ret (de_var 3 (pv 3))))))
theorem sc_law_others : FnScope ["_law_hand_here", "_law_prime_here", "_law_width", "_law_sums_here", "_law_found", "_law_kind", "_law_turn", "_law_one", "_law_other", "_law_row", "_law_value"] ["_law_hand_here", "_law_prime_here", "_law_width", "_law_sums_here"] (defScope st_law_others) := ⟨rfl, rfl, rfl, by decide +kernel, rfl, by decide +kernel, by decide +kernel⟩
theorem d_law_others (T : Txt K mg A) (k_law_draw : Kn P w K mg base "_law_draw" 1 ["_law_hand_here", "_law_many"] (l_law_draw A)) (k_law_turned : Kn P w K mg base "_law_turned" 2 ["_law_hand_here", "_law_things"] (l_law_turned A)) (k_law_times : Kn P w K mg base "_law_times" 1 ["_law_prime_here", "_law_row", "_law_times_here", "_law_other"] (l_law_times A)) (k_law_sums : Kn P w K mg base "_law_sums" 4 ["_law_hand_here", "_law_prime_here", "_law_width", "_law_most"] (l_law_sums A)) (k_law_sum : Kn P w K mg base "_law_sum" 2 ["_law_hand_here", "_law_prime_here", "_law_width"] (l_law_sum A)) (k_law_ladder : Kn P w K mg base "_law_ladder" 4 ["_law_prime_here", "_law_sums_here"] (l_law_ladder A)) {f : Addr} {fd : FuncData} (F : Fun K "_law_others" "_law_others" st_law_others f fd) : FnD P w K mg base 5 f fd ["_law_hand_here", "_law_prime_here", "_law_width", "_law_sums_here"] (l_law_others A) :=
  fn_D (k := 4) F sc_law_others fun cdv Ar outer s H E hr => (dss_cons (ds_par (i := 4) (j := 5) rfl sc_law_others.nd rfl rfl (by decide) rfl rfl (da_cons (de_fn k_law_turned hr (by decide) (takes_of rfl rfl rfl rfl) rfl rfl (da_cons (de_var 0 (pv 0)) (da_cons (de_var 3 (pv 3)) da_nil)) (len_cons (len_cons len_nil))) (da_cons (de_fn k_law_draw hr (by decide) (takes_of rfl rfl rfl rfl) rfl rfl (da_cons (de_var 0 (pv 0)) (da_cons de_int da_nil)) (len_cons (len_cons len_nil))) da_nil)) rfl) (dss_cons (ds_for (vs := [6]) (passes_of rfl) rfl (di_rg1 rfl T.b_range (de_fn k_law_draw hr (by decide) (takes_of rfl rfl rfl rfl) rfl rfl (da_cons (de_var 0 (pv 0)) (da_cons de_int da_nil)) (len_cons (len_cons len_nil)))) (pg_name (i := 6) sc_law_others.nd rfl (Or.inl rfl)) (tg_name (by decide)) (dss_one (ds_if (dt_cmp op_gtD (de_callB (ca_len rfl) rfl T.b_len bt_len (da_cons (de_var 4 (pv 4)) da_nil)) de_int (nomark _)) (dss_cons (ds_par (i := 7) (j := 8) rfl sc_law_others.nd rfl rfl (by decide) rfl rfl (da_cons (de_fn k_law_draw hr (by decide) (takes_of rfl rfl rfl rfl) rfl rfl (da_cons (de_var 0 (pv 0)) (da_cons (de_callB (ca_len rfl) rfl T.b_len bt_len (da_cons (de_var 4 (pv 4)) da_nil)) da_nil)) (len_cons (len_cons len_nil))) (da_cons (de_fn k_law_draw hr (by decide) (takes_of rfl rfl rfl rfl) rfl rfl (da_cons (de_var 0 (pv 0)) (da_cons (de_callB (ca_len rfl) rfl T.b_len bt_len (da_cons (de_var 4 (pv 4)) da_nil)) da_nil)) (len_cons (len_cons len_nil))) da_nil)) rfl) (dss_cons (ds_set (i := 9) sc_law_others.nd rfl (Or.inl rfl) (de_fn k_law_times hr (by decide) (takes_of rfl rfl rfl rfl) rfl rfl (da_cons (de_var 1 (pv 1)) (da_cons (de_ix (hu_of hr) (de_var 4 (pv 4)) (de_var 7 (pv 7))) (da_cons (de_bin op_addD de_int (de_fn k_law_draw hr (by decide) (takes_of rfl rfl rfl rfl) rfl rfl (da_cons (de_var 0 (pv 0)) (da_cons (de_bin op_subD (de_var 1 (pv 1)) de_int) da_nil)) (len_cons (len_cons len_nil)))) (da_cons (de_ix (hu_of hr) (de_var 4 (pv 4)) (de_var 8 (pv 8))) da_nil)))) (len_cons (len_cons (len_cons (len_cons len_nil)))))) (dss_one (ds_if (PW.pt (dw_and (dt_cmp (op_neDD (hu64_of hr)) (de_var 7 (pv 7)) (de_var 8 (pv 8)) (nomark _)) (dw_and1 (dt_val (de_callBF (ca_any rfl) rfl T.b_any bt_any (dl_lc (own := [("_law_value", 10)]) rfl sc_law_others.nd (tg_name (by decide)) (di_seq (de_var 9 (pv 9))) (blkOk_by (by kernel_rfl)) (fun _ _ _ _ _ => (pg_name (i := 10) sc_law_others.nd rfl (Or.inl rfl))) (fun _ _ _ _ _ => dts_nil) (fun _ _ _ _ _ => (de_cmp (op_neDD (hu64_of hr)) (de_var 10 (pv 10)) de_int (nomark _))))))))) (dss_one (ds_setIx (hu_of hr) (de_callTy (ca_tuple.both ca_tupleT) rfl T.b_tuple bt_tuple (da_cons (de_var 9 (pv 9)) da_nil)) (de_var 4 (pv 4)) (de_var 7 (pv 7)))) dss_nil)))) dss_nil))) (dss_cons (ds_if (PW.pt (dw_and (dt_cmp (op_eqDD (hu64_of hr)) (de_var 5 (pv 5)) de_int (nomark _)) (dw_and1 (dt_cmp op_gtD (de_callB (ca_len rfl) rfl T.b_len bt_len (da_cons (de_var 4 (pv 4)) da_nil)) de_int (nomark _))))) (dss_one (ds_expr (de_bm PySem.F.slot_list_pop PySem.F.type_list_pop md_pop (de_var 4 (pv 4)) (da_cons (de_fn k_law_draw hr (by decide) (takes_of rfl rfl rfl rfl) rfl rfl (da_cons (de_var 0 (pv 0)) (da_cons (de_callB (ca_len rfl) rfl T.b_len bt_len (da_cons (de_var 4 (pv 4)) da_nil)) da_nil)) (len_cons (len_cons len_nil))) da_nil)))) dss_nil) (dss_cons (ds_if (dt_cmp (op_eqDD (hu64_of hr)) (de_var 5 (pv 5)) de_int (nomark _)) (dss_one (ds_ret (de_fn k_law_sums hr (by decide) (takes_of rfl rfl rfl rfl) rfl rfl (da_cons (de_var 0 (pv 0)) (da_cons (de_var 1 (pv 1)) (da_cons (de_var 2 (pv 2)) (da_cons de_int da_nil)))) (len_cons (len_cons (len_cons (len_cons len_nil))))))) dss_nil) (dss_cons (ds_if (PW.pt (dw_and (dt_cmp (op_eqDD (hu64_of hr)) (de_var 5 (pv 5)) de_int (nomark _)) (dw_and1 (dt_cmp op_ltD (de_callB (ca_len rfl) rfl T.b_len bt_len (da_cons (de_var 4 (pv 4)) da_nil)) de_int (nomark _))))) (dss_one (ds_expr (de_bm PySem.F.slot_list_append PySem.F.type_list_append md_append (de_var 4 (pv 4)) (da_cons (de_fn k_law_sum hr (by decide) (takes_of rfl rfl rfl rfl) rfl rfl (da_cons (de_var 0 (pv 0)) (da_cons (de_var 1 (pv 1)) (da_cons (de_var 2 (pv 2)) da_nil))) (len_cons (len_cons (len_cons len_nil)))) da_nil)))) dss_nil) (dss_cons (ds_if (dt_cmp (op_eqDD (hu64_of hr)) (de_var 5 (pv 5)) de_int (nomark _)) (dss_one (ds_ret (de_fn k_law_ladder hr (by decide) (takes_of rfl rfl rfl rfl) rfl rfl (da_cons (de_var 1 (pv 1)) (da_cons (de_var 3 (pv 3)) da_nil)) (len_cons (len_cons len_nil))))) dss_nil) (dss_one (ds_ret (de_callTy (ca_tuple.both ca_tupleT) rfl T.b_tuple bt_tuple (da_cons (de_var 4 (pv 4)) da_nil))))))))))
theorem sc_alike : FnScope ["prime", "sums", "others"] ["prime", "sums", "others"] (defScope st_alike) := ⟨rfl, rfl, rfl, by decide +kernel, rfl, by decide +kernel, by decide +kernel⟩
theorem d_alike (T : Txt K mg A) (k_check_sums : Kn P w K mg base "check_sums" 5 ["prime", "sums"] (l_check_sums A)) (k_are_sums : Kn P w K mg base "are_sums" 4 ["prime", "thing"] (l_are_sums A)) (k_ladder_of : Kn P w K mg base "ladder_of" 5 ["prime", "sums"] (l_ladder_of A)) {f : Addr} {fd : FuncData} (F : Fun K "alike" "alike" st_alike f fd) : FnD P w K mg base 6 f fd ["prime", "sums", "others"] (l_alike A) :=
  fn_D (k := 5) F sc_alike fun cdv Ar outer s H E hr => (dss_cons (ds_expr (de_fn k_check_sums hr (by decide) (takes_of rfl rfl rfl rfl) rfl rfl (da_cons (de_var 0 (pv 0)) (da_cons (de_var 1 (pv 1)) da_nil)) (len_cons (len_cons len_nil)))) (dss_cons (ds_if (dt_not (dt_tru (de_fn k_are_sums hr (by decide) (takes_of rfl rfl rfl rfl) rfl rfl (da_cons (de_var 0 (pv 0)) (da_cons (de_var 2 (pv 2)) da_nil)) (len_cons (len_cons len_nil))))) (dss_one ds_never) dss_nil) (dss_cons (ds_if (PW.pt (dw_and (dt_cmp op_gtD (de_callB (ca_len rfl) rfl T.b_len bt_len (da_cons (de_var 1 (pv 1)) da_nil)) de_int (nomark _)) (dw_and (dt_cmp op_gtD (de_callB (ca_len rfl) rfl T.b_len bt_len (da_cons (de_var 2 (pv 2)) da_nil)) de_int (nomark _)) (dw_and1 (dt_cmp (op_neDD (hu64_of hr)) (de_callB (ca_len rfl) rfl T.b_len bt_len (da_cons (de_ix (hu_of hr) (de_var 1 (pv 1)) de_int) da_nil)) (de_callB (ca_len rfl) rfl T.b_len bt_len (da_cons (de_ix (hu_of hr) (de_var 2 (pv 2)) de_int) da_nil)) (nomark _)))))) (dss_one ds_never) dss_nil) (dss_one (ds_ret (de_cmp (op_eqDD (hu64_of hr)) (de_fn k_ladder_of hr (by decide) (takes_of rfl rfl rfl rfl) rfl rfl (da_cons (de_var 0 (pv 0)) (da_cons (de_var 1 (pv 1)) da_nil)) (len_cons (len_cons len_nil))) (de_fn k_ladder_of hr (by decide) (takes_of rfl rfl rfl rfl) rfl rfl (da_cons (de_var 0 (pv 0)) (da_cons (de_var 2 (pv 2)) da_nil)) (len_cons (len_cons len_nil))) (nomark _)))))))
theorem sc_Steps_is_made : FnScope ["self", "row"] ["self", "row"] (defScope st_Steps_is_made) := ⟨rfl, rfl, rfl, by decide +kernel, rfl, by decide +kernel, by decide +kernel⟩
theorem d_Steps_is_made (T : Txt K mg A) (k_first_place : Kn P w K mg base "first_place" 1 ["row"] (l_first_place A)) (k_Steps_fallen : Km P w K mg base (A "Steps") "fallen" 2 ["self", "row", "made"] (l_Steps_fallen A)) {f : Addr} {fd : FuncData} (F : Fun K "is_made" "Steps.is_made" st_Steps_is_made f fd) : FnD P w K mg base 3 f fd ["self", "row"] (l_Steps_is_made A) :=
  fn_D (k := 2) F sc_Steps_is_made fun cdv Ar outer s H E hr => (dss_one (ds_ret (de_cmp op_isD (de_fn k_first_place hr (by decide) (takes_of rfl rfl rfl rfl) rfl rfl (da_cons (de_ix (hu_of hr) (de_mt (de_var 0 (pv 0)) T.k_Steps k_Steps_fallen hr (by decide) (takes_of rfl rfl rfl rfl) (da_cons (de_var 1 (pv 1)) (da_cons (de_newD dk_empty) da_nil)) (fun r s ds s2 e => congrArg (· + 1) ((len_cons (len_cons len_nil)) r s ds s2 e))) de_int) da_nil) (len_cons len_nil)) de_non (nomark _))))
theorem sc_Steps_made_by : FnScope ["self", "row", "left", "made", "name"] ["self", "row"] (defScope st_Steps_made_by) := ⟨rfl, rfl, rfl, by decide +kernel, rfl, by decide +kernel, by decide +kernel⟩
theorem d_Steps_made_by (T : Txt K mg A) (k_Steps_fallen : Km P w K mg base (A "Steps") "fallen" 2 ["self", "row", "made"] (l_Steps_fallen A)) (k_first_place : Kn P w K mg base "first_place" 1 ["row"] (l_first_place A)) {f : Addr} {fd : FuncData} (F : Fun K "made_by" "Steps.made_by" st_Steps_made_by f fd) : FnD P w K mg base 3 f fd ["self", "row"] (l_Steps_made_by A) :=
  fn_D (k := 2) F sc_Steps_made_by fun cdv Ar outer s H E hr => (dss_cons (ds_asg (vs := [2, 3]) (de_mt (de_var 0 (pv 0)) T.k_Steps k_Steps_fallen hr (by decide) (takes_of rfl rfl rfl rfl) (da_cons (de_var 1 (pv 1)) (da_cons (de_newD dk_empty) da_nil)) (fun r s ds s2 e => congrArg (· + 1) ((len_cons (len_cons len_nil)) r s ds s2 e))) (pg_tup (n := 2) rfl (pgs_cons (pg_name (i := 2) sc_Steps_made_by.nd rfl (Or.inl rfl)) (pgs_cons (pg_name (i := 3) sc_Steps_made_by.nd rfl (Or.inr rfl)) pgs_nil))) (tg_tup (tgs_cons (tg_name (by decide)) (tgs_cons (tg_name (by decide)) tgs_nil)))) (dss_cons (ds_if (dt_cmp op_isNotD (de_fn k_first_place hr (by decide) (takes_of rfl rfl rfl rfl) rfl rfl (da_cons (de_var 2 (pv 2)) da_nil) (len_cons len_nil)) de_non (nomark _)) (dss_one (ds_ret de_non)) dss_nil) (dss_one (ds_ret (de_newD (dk_lock (mo := (mVar 3)) (dk_dc (own := [("name", 4)]) rfl sc_Steps_made_by.nd (tg_name (by decide)) (di_keys (de_var 3 (pv 3))) (blkOk_by (by kernel_rfl)) (fun _ _ _ _ _ => (pg_name (i := 4) sc_Steps_made_by.nd rfl (Or.inl rfl))) (fun _ _ _ _ _ => (dts_one (dt_cmp (op_neDD (hu64_of hr)) (de_ix (hu_of hr) (de_var 3 (pv 3)) (de_var 4 (pv 4))) de_int (nomark _)))) (fun _ _ _ _ _ => (de_var 4 (pv 4))) (fun _ _ _ _ _ => (de_bin op_modD (de_neg (de_ix (hu_of hr) (de_var 3 (pv 3)) (de_var 4 (pv 4)))) (de_fld T.p_kept_prime (de_var 0 (pv 0))))))))))))
theorem sc_nought : FnScope ["prime", "sums", "steps", "number", "one", "made", "found", "place"] ["prime", "sums"] (defScope st_nought) := ⟨rfl, rfl, rfl, by decide +kernel, rfl, by decide +kernel, by decide +kernel⟩
theorem d_nought (T : Txt K mg A) (k_check_sums : Kn P w K mg base "check_sums" 5 ["prime", "sums"] (l_check_sums A)) (k_Steps_init : Kc P w K mg base "Steps" (A "Steps") 1 ["self", "prime"] (l_Steps_init A)) (k_Steps_is_made : Km P w K mg base (A "Steps") "is_made" 3 ["self", "row"] (l_Steps_is_made A)) (k_Steps_made_by : Km P w K mg base (A "Steps") "made_by" 3 ["self", "row"] (l_Steps_made_by A)) (k_Steps_take : Km P w K mg base (A "Steps") "take" 3 ["self", "name", "row"] (l_Steps_take A)) {f : Addr} {fd : FuncData} (F : Fun K "nought" "nought" st_nought f fd) : FnD P w K mg base 6 f fd ["prime", "sums"] (l_nought A) :=
  fn_D (k := 5) F sc_nought fun cdv Ar outer s H E hr => (dss_cons (ds_expr (de_fn k_check_sums hr (by decide) (takes_of rfl rfl rfl rfl) rfl rfl (da_cons (de_var 0 (pv 0)) (da_cons (de_var 1 (pv 1)) da_nil)) (len_cons (len_cons len_nil)))) (dss_cons (ds_set (i := 2) sc_nought.nd rfl (Or.inl rfl) (de_mk k_Steps_init hr (by decide) (takes_of rfl rfl rfl rfl) rfl (da_cons (de_var 0 (pv 0)) da_nil) (fun r s ds s2 e => congrArg (· + 1) ((len_cons len_nil) r s ds s2 e)))) (dss_cons (ds_for (vs := [3, 4]) (passes_of rfl) rfl (di_enum rfl T.b_enumerate (de_var 1 (pv 1))) (pg_tup (n := 2) rfl (pgs_cons (pg_name (i := 3) sc_nought.nd rfl (Or.inl rfl)) (pgs_cons (pg_name (i := 4) sc_nought.nd rfl (Or.inl rfl)) pgs_nil))) (tg_tup (tgs_cons (tg_name (by decide)) (tgs_cons (tg_name (by decide)) tgs_nil))) (dss_cons (ds_if (dt_tru (de_mt (de_var 2 (pv 2)) T.k_Steps k_Steps_is_made hr (by decide) (takes_of rfl rfl rfl rfl) (da_cons (de_var 4 (pv 4)) da_nil) (fun r s ds s2 e => congrArg (· + 1) ((len_cons len_nil) r s ds s2 e)))) (dss_cons (ds_set (i := 5) sc_nought.nd rfl (Or.inr rfl) (de_mt (de_var 2 (pv 2)) T.k_Steps k_Steps_made_by hr (by decide) (takes_of rfl rfl rfl rfl) (da_cons (de_var 4 (pv 4)) da_nil) (fun r s ds s2 e => congrArg (· + 1) ((len_cons len_nil) r s ds s2 e)))) (dss_cons (ds_setLc (own := [("place", 7)]) (i := 6) rfl sc_nought.nd rfl rfl rfl (tg_name (by decide)) (di_rg1 rfl T.b_range (de_var 3 (pv 3))) (blkOk_by (by kernel_rfl)) (fun _ _ _ _ _ => (pg_name (i := 7) sc_nought.nd rfl (Or.inl rfl))) (fun _ _ _ _ _ => dts_nil) (fun _ _ _ _ _ => (de_bin op_modD (de_neg (de_get2 (hu_of hr) (de_var 5 (pv 5)) (de_var 7 (pv 7)) de_int)) (de_var 0 (pv 0))))) (dss_one (ds_ret (de_callTy (ca_tuple.both ca_tupleT) rfl T.b_tuple bt_tuple (da_cons (de_bin op_addD (de_bin op_addD (de_var 6 (pv 6)) (de_new (dl_lst (da_cons de_int da_nil)))) (de_bin op_mulD (de_new (dl_lst (da_cons de_int da_nil))) (de_bin op_subD (de_bin op_subD (de_callB (ca_len rfl) rfl T.b_len bt_len (da_cons (de_var 1 (pv 1)) da_nil)) (de_var 3 (pv 3))) de_int))) da_nil)))))) dss_nil) (dss_one (ds_expr (de_mt (de_var 2 (pv 2)) T.k_Steps k_Steps_take hr (by decide) (takes_of rfl rfl rfl rfl) (da_cons (de_var 3 (pv 3)) (da_cons (de_var 4 (pv 4)) da_nil)) (fun r s ds s2 e => congrArg (· + 1) ((len_cons (len_cons len_nil)) r s ds s2 e))))))) (dss_one (ds_ret de_non)))))
theorem sc_law_made : FnScope ["_law_prime_here", "_law_sums_here", "_law_thing", "_law_some", "_law_rows", "_law_place", "_law_at", "_law_column", "_law_here", "_law_times_here", "_law_number", "_law_found", "_law_value", "_law_row"] ["_law_prime_here", "_law_sums_here", "_law_thing"] (defScope st_law_made) := ⟨rfl, rfl, rfl, by decide +kernel, rfl, by decide +kernel, by decide +kernel⟩
theorem d_law_made (T : Txt K mg A) (k_law_taken : Kn P w K mg base "_law_taken" 3 ["_law_prime_here", "_law_sums_here"] (l_law_taken A)) (k_law_inverse : Kn P w K mg base "_law_inverse" 1 ["_law_prime_here", "_law_value"] (l_law_inverse A)) (k_law_times : Kn P w K mg base "_law_times" 1 ["_law_prime_here", "_law_row", "_law_times_here", "_law_other"] (l_law_times A)) {f : Addr} {fd : FuncData} (F : Fun K "_law_made" "_law_made" st_law_made f fd) : FnD P w K mg base 4 f fd ["_law_prime_here", "_law_sums_here", "_law_thing"] (l_law_made A) :=
  fn_D (k := 3) F sc_law_made fun cdv Ar outer s H E hr => (dss_cons (ds_set (i := 3) sc_law_made.nd rfl (Or.inl rfl) (de_ix (hu_of hr) (de_fn k_law_taken hr (by decide) (takes_of rfl rfl rfl rfl) rfl rfl (da_cons (de_var 0 (pv 0)) (da_cons (de_var 1 (pv 1)) da_nil)) (len_cons (len_cons len_nil))) de_int)) (dss_cons (ds_set (i := 4) sc_law_made.nd rfl (Or.inr rfl) (de_new (dl_lst da_nil))) (dss_cons (ds_for (vs := [5]) (passes_of rfl) rfl (di_rg1 rfl T.b_range (de_callB (ca_len rfl) rfl T.b_len bt_len (da_cons (de_var 2 (pv 2)) da_nil))) (pg_name (i := 5) sc_law_made.nd rfl (Or.inr rfl)) (tg_name (by decide)) (dss_one (ds_expr (de_bm PySem.F.slot_list_append PySem.F.type_list_append md_append (de_var 4 (pv 4)) (da_cons (de_bin op_addD (de_new (dl_lc (own := [("_law_number", 10)]) rfl sc_law_made.nd (tg_name (by decide)) (di_seq (de_var 3 (pv 3))) (blkOk_by (by kernel_rfl)) (fun _ _ _ _ _ => (pg_name (i := 10) sc_law_made.nd rfl (Or.inl rfl))) (fun _ _ _ _ _ => dts_nil) (fun _ _ _ _ _ => (de_ix (hu_of hr) (de_ix (hu_of hr) (de_var 1 (pv 1)) (de_var 10 (pv 10))) (de_var 5 (pv 5)))))) (de_new (dl_lst (da_cons (de_ix (hu_of hr) (de_var 2 (pv 2)) (de_var 5 (pv 5))) da_nil)))) da_nil))))) (dss_cons (ds_set (i := 6) sc_law_made.nd rfl (Or.inl rfl) de_int) (dss_cons (ds_for (vs := [7]) (passes_of rfl) rfl (di_rg1 rfl T.b_range (de_callB (ca_len rfl) rfl T.b_len bt_len (da_cons (de_var 3 (pv 3)) da_nil))) (pg_name (i := 7) sc_law_made.nd rfl (Or.inr rfl)) (tg_name (by decide)) (dss_cons (ds_set (i := 8) sc_law_made.nd rfl (Or.inl rfl) (de_ix (hu_of hr) (de_new (dl_lc (own := [("_law_number", 10)]) rfl sc_law_made.nd (tg_name (by decide)) (di_rg2 rfl T.b_range (de_var 6 (pv 6)) (de_callB (ca_len rfl) rfl T.b_len bt_len (da_cons (de_var 4 (pv 4)) da_nil))) (blkOk_by (by kernel_rfl)) (fun _ _ _ _ _ => (pg_name (i := 10) sc_law_made.nd rfl (Or.inl rfl))) (fun _ _ _ _ _ => (dts_one (dt_cmp (op_neDD (hu64_of hr)) (de_ix (hu_of hr) (de_ix (hu_of hr) (de_var 4 (pv 4)) (de_var 10 (pv 10))) (de_var 7 (pv 7))) de_int (nomark _)))) (fun _ _ _ _ _ => (de_var 10 (pv 10))))) de_int)) (dss_cons (ds_swap hr rfl (da_cons (de_ix (hu_of hr) (de_var 4 (pv 4)) (de_var 8 (pv 8))) (da_cons (de_ix (hu_of hr) (de_var 4 (pv 4)) (de_var 6 (pv 6))) da_nil)) (de_var 4 (pv 4)) (de_var 6 (pv 6)) (de_var 4 (pv 4)) (de_var 8 (pv 8))) (dss_cons (ds_set (i := 9) sc_law_made.nd rfl (Or.inr rfl) (de_fn k_law_inverse hr (by decide) (takes_of rfl rfl rfl rfl) rfl rfl (da_cons (de_var 0 (pv 0)) (da_cons (de_ix (hu_of hr) (de_ix (hu_of hr) (de_var 4 (pv 4)) (de_var 6 (pv 6))) (de_var 7 (pv 7))) da_nil)) (len_cons (len_cons len_nil)))) (dss_cons (ds_setIx (hu_of hr) (de_new (dl_lc (own := [("_law_value", 12)]) rfl sc_law_made.nd (tg_name (by decide)) (di_seq (de_ix (hu_of hr) (de_var 4 (pv 4)) (de_var 6 (pv 6)))) (blkOk_by (by kernel_rfl)) (fun _ _ _ _ _ => (pg_name (i := 12) sc_law_made.nd rfl (Or.inl rfl))) (fun _ _ _ _ _ => dts_nil) (fun _ _ _ _ _ => (de_bin op_modD (de_callTy ca_int rfl T.b_int bt_int (da_cons (de_bin op_mulD (de_var 9 (pv 9)) (de_var 12 (pv 12))) da_nil)) (de_var 0 (pv 0)))))) (de_var 4 (pv 4)) (de_var 6 (pv 6))) (dss_cons (ds_for (vs := [10]) (passes_of rfl) rfl (di_rg1 rfl T.b_range (de_callB (ca_len rfl) rfl T.b_len bt_len (da_cons (de_var 4 (pv 4)) da_nil))) (pg_name (i := 10) sc_law_made.nd rfl (Or.inl rfl)) (tg_name (by decide)) (dss_one (ds_if (PW.pt (dw_and (dt_cmp (op_neDD (hu64_of hr)) (de_var 10 (pv 10)) (de_var 6 (pv 6)) (nomark _)) (dw_and1 (dt_cmp (op_neDD (hu64_of hr)) (de_ix (hu_of hr) (de_ix (hu_of hr) (de_var 4 (pv 4)) (de_var 10 (pv 10))) (de_var 7 (pv 7))) de_int (nomark _))))) (dss_one (ds_setIx (hu_of hr) (de_fn k_law_times hr (by decide) (takes_of rfl rfl rfl rfl) rfl rfl (da_cons (de_var 0 (pv 0)) (da_cons (de_ix (hu_of hr) (de_var 4 (pv 4)) (de_var 10 (pv 10))) (da_cons (de_bin op_subD (de_var 0 (pv 0)) (de_ix (hu_of hr) (de_ix (hu_of hr) (de_var 4 (pv 4)) (de_var 10 (pv 10))) (de_var 7 (pv 7)))) (da_cons (de_ix (hu_of hr) (de_var 4 (pv 4)) (de_var 6 (pv 6))) da_nil)))) (len_cons (len_cons (len_cons (len_cons len_nil))))) (de_var 4 (pv 4)) (de_var 10 (pv 10)))) dss_nil))) (dss_one (ds_set (i := 6) sc_law_made.nd rfl (Or.inl rfl) (de_bin op_addD (de_var 6 (pv 6)) de_int))))))))) (dss_cons (ds_if (dt_val (de_callBF (ca_any rfl) rfl T.b_any bt_any (dl_lc (own := [("_law_row", 13)]) rfl sc_law_made.nd (tg_name (by decide)) (di_seq (de_slice (de_var 4 (pv 4)) (do_some (de_var 6 (pv 6))) do_none)) (blkOk_by (by kernel_rfl)) (fun _ _ _ _ _ => (pg_name (i := 13) sc_law_made.nd rfl (Or.inl rfl))) (fun _ _ _ _ _ => dts_nil) (fun _ _ _ _ _ => (de_cmp (op_neDD (hu64_of hr)) (de_ix (hu_of hr) (de_var 13 (pv 13)) (de_neg de_int)) de_int (nomark _)))))) (dss_one (ds_ret de_non)) dss_nil) (dss_cons (ds_set (i := 11) sc_law_made.nd rfl (Or.inl rfl) (de_bin op_mulD (de_new (dl_lst (da_cons de_int da_nil))) (de_callB (ca_len rfl) rfl T.b_len bt_len (da_cons (de_var 1 (pv 1)) da_nil)))) (dss_cons (ds_for (vs := [7, 10]) (passes_of rfl) rfl (di_enum rfl T.b_enumerate (de_var 3 (pv 3))) (pg_tup (n := 2) rfl (pgs_cons (pg_name (i := 7) sc_law_made.nd rfl (Or.inr rfl)) (pgs_cons (pg_name (i := 10) sc_law_made.nd rfl (Or.inl rfl)) pgs_nil))) (tg_tup (tgs_cons (tg_name (by decide)) (tgs_cons (tg_name (by decide)) tgs_nil))) (dss_one (ds_setIx (hu_of hr) (de_ix (hu_of hr) (de_ix (hu_of hr) (de_var 4 (pv 4)) (de_var 7 (pv 7))) (de_neg de_int)) (de_var 11 (pv 11)) (de_var 10 (pv 10))))) (dss_one (ds_ret (de_callTy (ca_tuple.both ca_tupleT) rfl T.b_tuple bt_tuple (da_cons (de_var 11 (pv 11)) da_nil))))))))))))
theorem sc_law_nought : FnScope ["_law_prime_here", "_law_sums_here", "_law_some", "_law_behind", "_law_number", "_law_made_here", "_law_value"] ["_law_prime_here", "_law_sums_here"] (defScope st_law_nought) := ⟨rfl, rfl, rfl, by decide +kernel, rfl, by decide +kernel, by decide +kernel⟩
theorem d_law_nought (T : Txt K mg A) (k_law_taken : Kn P w K mg base "_law_taken" 3 ["_law_prime_here", "_law_sums_here"] (l_law_taken A)) (k_law_made : Kn P w K mg base "_law_made" 4 ["_law_prime_here", "_law_sums_here", "_law_thing"] (l_law_made A)) {f : Addr} {fd : FuncData} (F : Fun K "_law_nought" "_law_nought" st_law_nought f fd) : FnD P w K mg base 5 f fd ["_law_prime_here", "_law_sums_here"] (l_law_nought A) :=
  fn_D (k := 4) F sc_law_nought fun cdv Ar outer s H E hr => (dss_cons (ds_set (i := 2) sc_law_nought.nd rfl (Or.inr rfl) (de_ix (hu_of hr) (de_fn k_law_taken hr (by decide) (takes_of rfl rfl rfl rfl) rfl rfl (da_cons (de_var 0 (pv 0)) (da_cons (de_var 1 (pv 1)) da_nil)) (len_cons (len_cons len_nil))) de_int)) (dss_cons (ds_setLc (own := [("_law_number", 4)]) (i := 3) rfl sc_law_nought.nd rfl rfl rfl (tg_name (by decide)) (di_rg1 rfl T.b_range (de_callB (ca_len rfl) rfl T.b_len bt_len (da_cons (de_var 1 (pv 1)) da_nil))) (blkOk_by (by kernel_rfl)) (fun _ _ _ _ _ => (pg_name (i := 4) sc_law_nought.nd rfl (Or.inl rfl))) (fun _ _ _ _ _ => (dts_one (dt_cmp (op_notinDD (hu65_of hr)) (de_var 4 (pv 4)) (de_var 2 (pv 2)) (by with_unfolding_all rfl)))) (fun _ _ _ _ _ => (de_var 4 (pv 4)))) (dss_cons (ds_if (dt_cmp (op_eqDD (hu64_of hr)) (de_callB (ca_len rfl) rfl T.b_len bt_len (da_cons (de_var 3 (pv 3)) da_nil)) de_int (nomark _)) (dss_one (ds_ret de_non)) dss_nil) (dss_cons (ds_set (i := 4) sc_law_nought.nd rfl (Or.inl rfl) (de_ix (hu_of hr) (de_var 3 (pv 3)) de_int)) (dss_cons (ds_set (i := 5) sc_law_nought.nd rfl (Or.inl rfl) (de_fn k_law_made hr (by decide) (takes_of rfl rfl rfl rfl) rfl rfl (da_cons (de_var 0 (pv 0)) (da_cons (de_slice (de_var 1 (pv 1)) do_none (do_some (de_var 4 (pv 4)))) (da_cons (de_ix (hu_of hr) (de_var 1 (pv 1)) (de_var 4 (pv 4))) da_nil))) (len_cons (len_cons (len_cons len_nil))))) (dss_one (ds_ret (de_callTy (ca_tuple.both ca_tupleT) rfl T.b_tuple bt_tuple (da_cons (de_bin op_addD (de_bin op_addD (de_new (dl_lc (own := [("_law_value", 6)]) rfl sc_law_nought.nd (tg_name (by decide)) (di_seq (de_var 5 (pv 5))) (blkOk_by (by kernel_rfl)) (fun _ _ _ _ _ => (pg_name (i := 6) sc_law_nought.nd rfl (Or.inl rfl))) (fun _ _ _ _ _ => dts_nil) (fun _ _ _ _ _ => (de_bin op_modD (de_callTy ca_int rfl T.b_int bt_int (da_cons (de_bin op_subD de_int (de_var 6 (pv 6))) da_nil)) (de_var 0 (pv 0)))))) (de_new (dl_lst (da_cons de_int da_nil)))) (de_bin op_mulD (de_new (dl_lst (da_cons de_int da_nil))) (de_bin op_subD (de_bin op_subD (de_callB (ca_len rfl) rfl T.b_len bt_len (da_cons (de_var 1 (pv 1)) da_nil)) (de_var 4 (pv 4))) de_int))) da_nil)))))))))
theorem sc_law_added : FnScope ["_law_prime_here", "_law_sums_here", "_law_values", "_law_width", "_law_found", "_law_one", "_law_times_here"] ["_law_prime_here", "_law_sums_here", "_law_values", "_law_width"] (defScope st_law_added) := ⟨rfl, rfl, rfl, by decide +kernel, rfl, by decide +kernel, by decide +kernel⟩
theorem d_law_added (T : Txt K mg A) (k_law_times : Kn P w K mg base "_law_times" 1 ["_law_prime_here", "_law_row", "_law_times_here", "_law_other"] (l_law_times A)) {f : Addr} {fd : FuncData} (F : Fun K "_law_added" "_law_added" st_law_added f fd) : FnD P w K mg base 2 f fd ["_law_prime_here", "_law_sums_here", "_law_values", "_law_width"] (l_law_added A) :=
  fn_D (k := 1) F sc_law_added fun cdv Ar outer s H E hr => (dss_cons (ds_set (i := 4) sc_law_added.nd rfl (Or.inl rfl) (de_bin op_mulD (de_new (dl_lst (da_cons de_int da_nil))) (de_var 3 (pv 3)))) (dss_cons (ds_for (vs := [5, 6]) (passes_of rfl) rfl (di_zip rfl T.b_zip (de_var 1 (pv 1)) (de_var 2 (pv 2))) (pg_tup (n := 2) rfl (pgs_cons (pg_name (i := 5) sc_law_added.nd rfl (Or.inl rfl)) (pgs_cons (pg_name (i := 6) sc_law_added.nd rfl (Or.inl rfl)) pgs_nil))) (tg_tup (tgs_cons (tg_name (by decide)) (tgs_cons (tg_name (by decide)) tgs_nil))) (dss_one (ds_set (i := 4) sc_law_added.nd rfl (Or.inl rfl) (de_fn k_law_times hr (by decide) (takes_of rfl rfl rfl rfl) rfl rfl (da_cons (de_var 0 (pv 0)) (da_cons (de_var 4 (pv 4)) (da_cons (de_var 6 (pv 6)) (da_cons (de_var 5 (pv 5)) da_nil)))) (len_cons (len_cons (len_cons (len_cons len_nil)))))))) (dss_one (ds_ret (de_callTy (ca_tuple.both ca_tupleT) rfl T.b_tuple bt_tuple (da_cons (de_var 4 (pv 4)) da_nil))))))
theorem sc_law : FnScope ["_law_script", "_law_hand_here", "_law_turn", "_law_prime_here", "_law_width", "_law_sums_here", "_law_due", "_law_told", "_law_places", "_law_others_here", "_law_flag", "_law_row", "_law_place", "_law_value"] ["_law_script"] (defScope st_law) := ⟨rfl, rfl, rfl, by decide +kernel, rfl, by decide +kernel, by decide +kernel⟩
theorem d_law (T : Txt K mg A) (k_law_hand : Ks P w K mg base "_law_hand" 1 ["_law_script"] (l_law_hand A)) (k_law_any : Kn P w K mg base "_law_any" 2 ["_law_hand_here", "_law_some"] (l_law_any A)) (k_law_prime : Kn P w K mg base "_law_prime" 3 ["_law_hand_here"] (l_law_prime A)) (k_law_sums : Kn P w K mg base "_law_sums" 4 ["_law_hand_here", "_law_prime_here", "_law_width", "_law_most"] (l_law_sums A)) (k_ladder : Kn P w K mg base "ladder" 6 ["prime", "sums"] (l_ladder A)) (k_law_ladder : Kn P w K mg base "_law_ladder" 4 ["_law_prime_here", "_law_sums_here"] (l_law_ladder A)) (k_law_others : Kn P w K mg base "_law_others" 5 ["_law_hand_here", "_law_prime_here", "_law_width", "_law_sums_here"] (l_law_others A)) (k_alike : Kn P w K mg base "alike" 6 ["prime", "sums", "others"] (l_alike A)) (k_nought : Kn P w K mg base "nought" 6 ["prime", "sums"] (l_nought A)) (k_law_nought : Kn P w K mg base "_law_nought" 5 ["_law_prime_here", "_law_sums_here"] (l_law_nought A)) (k_law_added : Kn P w K mg base "_law_added" 2 ["_law_prime_here", "_law_sums_here", "_law_values", "_law_width"] (l_law_added A)) {f : Addr} {fd : FuncData} (F : Fun K "law" "law" st_law f fd) : FnS P w K mg base 7 f fd ["_law_script"] (m_law A) :=
  fnS_D (k := 6) F sc_law rfl fun ns h63 cdv Ar outer s H E hr => (pss_scr (ps_setCallScr (i := 1) h63 k_law_hand hr (by decide) (takes_of rfl rfl rfl rfl) rfl (pv 0) sc_law.nd rfl (Or.inl rfl)) (dss_cons (ds_for (vs := [2]) (passes_of rfl) rfl (di_rg1 rfl T.b_range de_int) (pg_name (i := 2) sc_law.nd rfl (Or.inl rfl)) (tg_name (by decide)) (dss_cons (ds_par (i := 3) (j := 4) rfl sc_law.nd rfl rfl (by decide) rfl rfl (da_cons (de_fn k_law_prime hr (by decide) (takes_of rfl rfl rfl rfl) rfl rfl (da_cons (de_var 1 (pv 1)) da_nil) (len_cons len_nil)) (da_cons (de_fn k_law_any hr (by decide) (takes_of rfl rfl rfl rfl) rfl rfl (da_cons (de_var 1 (pv 1)) (da_cons (de_new (dl_lst (da_cons de_int (da_cons de_int (da_cons de_int (da_cons de_int (da_cons de_int (da_cons de_int da_nil)))))))) da_nil)) (len_cons (len_cons len_nil))) da_nil)) rfl) (dss_cons (ds_set (i := 5) sc_law.nd rfl (Or.inl rfl) (de_fn k_law_sums hr (by decide) (takes_of rfl rfl rfl rfl) rfl rfl (da_cons (de_var 1 (pv 1)) (da_cons (de_var 3 (pv 3)) (da_cons (de_var 4 (pv 4)) (da_cons (de_fn k_law_any hr (by decide) (takes_of rfl rfl rfl rfl) rfl rfl (da_cons (de_var 1 (pv 1)) (da_cons (de_new (dl_lst (da_cons de_int (da_cons de_int (da_cons de_int (da_cons de_int da_nil)))))) da_nil)) (len_cons (len_cons len_nil))) da_nil)))) (len_cons (len_cons (len_cons (len_cons len_nil)))))) (dss_cons (ds_par (i := 6) (j := 7) rfl sc_law.nd rfl rfl (by decide) rfl rfl (da_cons (de_fn k_law_ladder hr (by decide) (takes_of rfl rfl rfl rfl) rfl rfl (da_cons (de_var 3 (pv 3)) (da_cons (de_var 5 (pv 5)) da_nil)) (len_cons (len_cons len_nil))) (da_cons (de_fn k_ladder hr (by decide) (takes_of rfl rfl rfl rfl) rfl rfl (da_cons (de_var 3 (pv 3)) (da_cons (de_var 5 (pv 5)) da_nil)) (len_cons (len_cons len_nil))) da_nil)) rfl) (dss_cons (ds_if (PW.pt (dw_or (dt_cmp (op_neDD (hu64_of hr)) (de_var 7 (pv 7)) (de_var 6 (pv 6)) (nomark _)) (dw_or (dt_not (dt_val (de_callB ca_isi rfl T.b_isinstance bt_isinstance (da_cons (de_var 7 (pv 7)) (da_cons (de_ty rfl T.b_tuple bt_tuple) da_nil))))) (dw_or1 (dt_not (dt_val (de_callBF (ca_all rfl) rfl T.b_all bt_all (dl_lc (own := [("_law_row", 11)]) rfl sc_law.nd (tg_name (by decide)) (di_seq (de_var 7 (pv 7))) (blkOk_by (by kernel_rfl)) (fun _ _ _ _ _ => (pg_name (i := 11) sc_law.nd rfl (Or.inl rfl))) (fun _ _ _ _ _ => dts_nil) (fun _ _ _ _ _ => (de_callB ca_isi rfl T.b_isinstance bt_isinstance (da_cons (de_var 11 (pv 11)) (da_cons (de_ty rfl T.b_tuple bt_tuple) da_nil)))))))))))) (dss_one (ds_ret de_bl)) dss_nil) (dss_cons (ds_setLc (own := [("_law_row", 11)]) (i := 8) rfl sc_law.nd rfl rfl rfl (tg_name (by decide)) (di_seq (de_var 7 (pv 7))) (blkOk_by (by kernel_rfl)) (fun _ _ _ _ _ => (pg_name (i := 11) sc_law.nd rfl (Or.inl rfl))) (fun _ _ _ _ _ => dts_nil) (fun _ _ _ _ _ => (de_ix (hu_of hr) (de_new (dl_lc (own := [("_law_place", 12), ("_law_value", 13)]) rfl sc_law.nd (tg_tup (tgs_cons (tg_name (by decide)) (tgs_cons (tg_name (by decide)) tgs_nil))) (di_enum rfl T.b_enumerate (de_var 11 (pv 11))) (blkOk_by (by kernel_rfl)) (fun _ _ _ _ _ => (pg_tup (n := 2) rfl (pgs_cons (pg_name (i := 12) sc_law.nd rfl (Or.inl rfl)) (pgs_cons (pg_name (i := 13) sc_law.nd rfl (Or.inl rfl)) pgs_nil)))) (fun _ _ _ _ _ => (dts_one (dt_cmp (op_neDD (hu64_of hr)) (de_var 13 (pv 13)) de_int (nomark _)))) (fun _ _ _ _ _ => (de_var 12 (pv 12))))) de_int))) (dss_cons (ds_if (PW.pt (dw_or (dt_cmp (op_neDD (hu64_of hr)) (de_var 8 (pv 8)) (de_new (dl_srtU rfl rfl T.b_sorted rfl T.b_set (da_cons (de_var 8 (pv 8)) da_nil))) (nomark _)) (dw_or1 (dt_val (de_callBF (ca_any rfl) rfl T.b_any bt_any (dl_lc (own := [("_law_row", 11), ("_law_place", 12)]) rfl sc_law.nd (tg_tup (tgs_cons (tg_name (by decide)) (tgs_cons (tg_name (by decide)) tgs_nil))) (di_zip rfl T.b_zip (de_var 7 (pv 7)) (de_var 8 (pv 8))) (blkOk_by (by kernel_rfl)) (fun _ _ _ _ _ => (pg_tup (n := 2) rfl (pgs_cons (pg_name (i := 11) sc_law.nd rfl (Or.inl rfl)) (pgs_cons (pg_name (i := 12) sc_law.nd rfl (Or.inl rfl)) pgs_nil)))) (fun _ _ _ _ _ => dts_nil) (fun _ _ _ _ _ => (de_cmp (op_neDD (hu64_of hr)) (de_ix (hu_of hr) (de_var 11 (pv 11)) (de_var 12 (pv 12))) de_int (nomark _))))))))) (dss_one (ds_ret de_bl)) dss_nil) (dss_cons (ds_set (i := 9) sc_law.nd rfl (Or.inl rfl) (de_fn k_law_others hr (by decide) (takes_of rfl rfl rfl rfl) rfl rfl (da_cons (de_var 1 (pv 1)) (da_cons (de_var 3 (pv 3)) (da_cons (de_var 4 (pv 4)) (da_cons (de_var 5 (pv 5)) da_nil)))) (len_cons (len_cons (len_cons (len_cons len_nil)))))) (dss_cons (ds_set (i := 10) sc_law.nd rfl (Or.inl rfl) (de_fn k_alike hr (by decide) (takes_of rfl rfl rfl rfl) rfl rfl (da_cons (de_var 3 (pv 3)) (da_cons (de_var 5 (pv 5)) (da_cons (de_var 9 (pv 9)) da_nil))) (len_cons (len_cons (len_cons len_nil))))) (dss_cons (ds_if (PW.pt (dw_or (dt_not (dt_val (de_callB ca_isi rfl T.b_isinstance bt_isinstance (da_cons (de_var 10 (pv 10)) (da_cons (de_ty rfl T.b_bool bt_bool) da_nil))))) (dw_or1 (dt_cmp (op_neDD (hu64_of hr)) (de_var 10 (pv 10)) (de_cmp (op_eqDD (hu64_of hr)) (de_fn k_law_ladder hr (by decide) (takes_of rfl rfl rfl rfl) rfl rfl (da_cons (de_var 3 (pv 3)) (da_cons (de_var 9 (pv 9)) da_nil)) (len_cons (len_cons len_nil))) (de_var 6 (pv 6)) (nomark _)) (nomark _))))) (dss_one (ds_ret de_bl)) dss_nil) (dss_cons (ds_if (dt_cmp (op_neDD (hu64_of hr)) (de_var 10 (pv 10)) (de_fn k_alike hr (by decide) (takes_of rfl rfl rfl rfl) rfl rfl (da_cons (de_var 3 (pv 3)) (da_cons (de_var 9 (pv 9)) (da_cons (de_var 5 (pv 5)) da_nil))) (len_cons (len_cons (len_cons len_nil)))) (nomark _)) (dss_one (ds_ret de_bl)) dss_nil) (dss_cons (ds_if (PW.pt (dw_or (dt_cmp op_isNotD (de_fn k_alike hr (by decide) (takes_of rfl rfl rfl rfl) rfl rfl (da_cons (de_var 3 (pv 3)) (da_cons (de_var 5 (pv 5)) (da_cons (de_var 7 (pv 7)) da_nil))) (len_cons (len_cons (len_cons len_nil)))) de_bl (nomark _)) (dw_or1 (dt_cmp (op_neDD (hu64_of hr)) (de_fn k_ladder hr (by decide) (takes_of rfl rfl rfl rfl) rfl rfl (da_cons (de_var 3 (pv 3)) (da_cons (de_var 7 (pv 7)) da_nil)) (len_cons (len_cons len_nil))) (de_var 7 (pv 7)) (nomark _))))) (dss_one (ds_ret de_bl)) dss_nil) (dss_cons (ds_if (dt_cmp (op_neDD (hu64_of hr)) (de_fn k_alike hr (by decide) (takes_of rfl rfl rfl rfl) rfl rfl (da_cons (de_var 3 (pv 3)) (da_cons (de_var 5 (pv 5)) (da_cons (de_tup da_nil) da_nil))) (len_cons (len_cons (len_cons len_nil)))) (de_cmp (op_eqDD (hu64_of hr)) (de_callB (ca_len rfl) rfl T.b_len bt_len (da_cons (de_var 5 (pv 5)) da_nil)) de_int (nomark _)) (nomark _)) (dss_one (ds_ret de_bl)) dss_nil) (dss_cons (ds_set (i := 11) sc_law.nd rfl (Or.inl rfl) (de_fn k_nought hr (by decide) (takes_of rfl rfl rfl rfl) rfl rfl (da_cons (de_var 3 (pv 3)) (da_cons (de_var 5 (pv 5)) da_nil)) (len_cons (len_cons len_nil)))) (dss_cons (ds_if (PW.pt (dw_or (dt_cmp (op_neDD (hu64_of hr)) (de_var 11 (pv 11)) (de_fn k_law_nought hr (by decide) (takes_of rfl rfl rfl rfl) rfl rfl (da_cons (de_var 3 (pv 3)) (da_cons (de_var 5 (pv 5)) da_nil)) (len_cons (len_cons len_nil))) (nomark _)) (dw_or1 (PW.pt (dw_and (dt_cmp op_isNotD (de_var 11 (pv 11)) de_non (nomark _)) (dw_and1 (dt_not (dt_val (de_callB ca_isi rfl T.b_isinstance bt_isinstance (da_cons (de_var 11 (pv 11)) (da_cons (de_ty rfl T.b_tuple bt_tuple) da_nil))))))))))) (dss_one (ds_ret de_bl)) dss_nil) (dss_one (ds_if (PW.pt (dw_and (dt_cmp op_isNotD (de_var 11 (pv 11)) de_non (nomark _)) (dw_and1 (dt_val (de_callB (ca_anyT rfl) rfl T.b_any bt_any (da_cons (de_fn k_law_added hr (by decide) (takes_of rfl rfl rfl rfl) rfl rfl (da_cons (de_var 3 (pv 3)) (da_cons (de_var 5 (pv 5)) (da_cons (de_var 11 (pv 11)) (da_cons (de_var 4 (pv 4)) da_nil)))) (len_cons (len_cons (len_cons (len_cons len_nil))))) da_nil)))))) (dss_one (ds_ret de_bl)) dss_nil))))))))))))))))) (dss_one (ds_ret de_bl))))
end
end M03
end
/-! ### P1 -/
section
set_option linter.all false
set_option maxRecDepth 100000
/-! P1: what a mirror answers: rules. -/
namespace DL
open PySem PySem.Spec L2
open PyProof.Rows hiding St
/-- r is an answer of which Q is true -/
def RW {α : Type} (r : R α) (Q : α → Sto → Prop) : Prop := match r with
  | .ok a s => Q a s
  | _ => False
def SW (x : S) (Qn : Env → Sto → Prop) (Qr : D → Sto → Prop) (Qb Qc : Env → Sto → Prop) : Prop := match x with
  | .nx r s => Qn r s
  | .rt d s => Qr d s
  | .bk r s => Qb r s
  | .ct r s => Qc r s
  | _ => False
theorem RW.imp {α : Type} {r : R α} {Q Q' : α → Sto → Prop} (h : RW r Q) (f : ∀ a s, Q a s → Q' a s) : RW r Q' := by
  cases r <;> first | exact f _ _ h | exact h
theorem RW.get {α : Type} {r : R α} {Q : α → Sto → Prop} (h : RW r Q) : ∃ a s, r = .ok a s ∧ Q a s := by
  cases r with
  | ok a s => exact ⟨a, s, rfl, h⟩
  | exc _ _ => exact h.elim
  | bad => exact h.elim
theorem RW.of {α : Type} {r : R α} {Q : α → Sto → Prop} {a : α} {s : Sto} (e : r = .ok a s) (h : Q a s) : RW r Q := by rw [e]; exact h
theorem SW.imp {x : S} {Qn Qn' Qb Qb' Qc Qc' : Env → Sto → Prop} {Qr Qr' : D → Sto → Prop} (h : SW x Qn Qr Qb Qc) (f1 : ∀ r s, Qn r s → Qn' r s) (f2 : ∀ r s, Qr r s → Qr' r s) (f3 : ∀ r s, Qb r s → Qb' r s) (f4 : ∀ r s, Qc r s → Qc' r s) : SW x Qn' Qr' Qb' Qc' := by
  cases x <;> first | exact f1 _ _ h | exact f2 _ _ h | exact f3 _ _ h | exact f4 _ _ h | exact h
section
variable {α β : Type} {s : Sto} {r : Env} {Q : D → Sto → Prop} {QB : Bool → Sto → Prop} {QL : List D → Sto → Prop} {m n o : ME} {ma : MA} {u w : MT}
@[simp] theorem RW_ok {a : α} {Q : α → Sto → Prop} : RW (.ok a s) Q ↔ Q a s := Iff.rfl
@[simp] theorem RW_bad {Q : α → Sto → Prop} : RW .bad Q ↔ False := Iff.rfl
@[simp] theorem RW_exc {e : Exn} {Q : α → Sto → Prop} : RW (.exc e s) Q ↔ False := Iff.rfl
@[simp] theorem RW_bind {x : R α} {f : α → Sto → R β} {Q : β → Sto → Prop} : RW (x.bind f) Q ↔ RW x (fun a s => RW (f a s) Q) := by
  cases x <;> simp [R.bind, RW]
@[simp] theorem RW_of_some {a : α} {Q : α → Sto → Prop} : RW (R.of (some (a, s))) Q ↔ Q a s := Iff.rfl
@[simp] theorem RW_of_none {Q : α → Sto → Prop} : RW (R.of none) Q ↔ False := Iff.rfl
theorem RW_of {o : Option (α × Sto)} {Q : α → Sto → Prop} : RW (R.of o) Q ↔ ∃ a s', o = some (a, s') ∧ Q a s' := by
  cases o with
  | none => simp
  | some q =>
    obtain ⟨a, s'⟩ := q
    constructor
    · exact fun h => ⟨a, s', rfl, h⟩
    · rintro ⟨a, s', e, h⟩
      cases e
      exact h
@[simp] theorem RW_C {d : D} : RW (mC d r s) Q ↔ Q d s := Iff.rfl
@[simp] theorem RW_var {i : Nat} : RW (mVar i r s) Q ↔ ∃ d, r[i]? = some (some d) ∧ Q d s := by
  unfold mVar
  cases h : r[i]? with
  | none => simp
  | some x => cases x <;> simp
@[simp] theorem RW_bin {g : G2} : RW (mBin g m n r s) Q ↔ RW (m r s) fun d s1 => RW (n r s1) fun e s2 => RW (R.of (g d e s2)) Q := by simp [mBin]
@[simp] theorem RW_neg : RW (mNeg m r s) Q ↔ RW (m r s) fun d s1 => ∃ i, d = .int i ∧ Q (.int (-i)) s1 := by
  simp only [mNeg, RW_bind]
  constructor
  · intro h; refine h.imp fun d s1 q => ?_; cases d <;> simp_all
  · intro h; refine h.imp fun d s1 ⟨i, e, q⟩ => ?_; subst e; exact q
@[simp] theorem RW_nil : RW (mNil r s) QL ↔ QL [] s := Iff.rfl
@[simp] theorem RW_cons : RW (mCons m ma r s) QL ↔ RW (m r s) fun d s1 => RW (ma r s1) fun ds s2 => QL (d :: ds) s2 := by simp [mCons]
@[simp] theorem RW_tup : RW (mTup ma r s) Q ↔ RW (ma r s) fun ds s1 => ds.length ≤ sizeLine ∧ Q (.tup ds) s1 := by
  simp only [mTup, RW_bind]
  constructor
  · intro h; refine h.imp fun d s1 q => ?_; split at q; exact ⟨by assumption, q⟩; exact q.elim
  · intro h; refine h.imp fun d s1 ⟨e, q⟩ => ?_; rw [if_pos e]; exact q
@[simp] theorem RW_lst : RW (mLst ma r s) QL ↔ RW (ma r s) fun ds s1 => ds.length ≤ sizeLine ∧ QL ds s1 := by
  simp only [mLst, RW_bind]
  constructor
  · intro h; refine h.imp fun d s1 q => ?_; split at q; exact ⟨by assumption, q⟩; exact q.elim
  · intro h; refine h.imp fun d s1 ⟨e, q⟩ => ?_; rw [if_pos e]; exact q
@[simp] theorem RW_new : RW (mNew ma r s) Q ↔ RW (ma r s) fun ds s1 => Q (.loc s1.length) (s1 ++ [.lst ds]) := by simp [mNew]
@[simp] theorem RW_newD {md : MD} : RW (mNewD md r s) Q ↔ RW (md r s) fun ds s1 => Q (.loc s1.length) (s1 ++ [.dct ds]) := by simp [mNewD]
@[simp] theorem RW_callB {g : GF} : RW (mCallB g ma r s) Q ↔ RW (ma r s) fun ds s1 => RW (R.of (g ds s1)) Q := by simp [mCallB]
@[simp] theorem RW_callF {g : List D → Option D} : RW (mCallF g ma r s) Q ↔ RW (ma r s) fun ds s1 => ∃ z, g ds = some z ∧ Q z s1 := by
  simp only [mCallF, RW_bind]
  constructor
  · intro h; refine h.imp fun d s1 q => ?_; split at q; exact ⟨_, by assumption, q⟩; exact q.elim
  · intro h; refine h.imp fun d s1 ⟨z, e, q⟩ => ?_; rw [e]; exact q
@[simp] theorem RW_callL {g : GL} : RW (mCallL g ma r s) QL ↔ RW (ma r s) fun ds s1 => ∃ z, g ds s1 = some z ∧ QL z s1 := by
  simp only [mCallL, RW_bind]
  constructor
  · intro h; refine h.imp fun d s1 q => ?_; split at q; exact ⟨_, by assumption, q⟩; exact q.elim
  · intro h; refine h.imp fun d s1 ⟨z, e, q⟩ => ?_; rw [e]; exact q
@[simp] theorem RW_call {f : MF} : RW (mCall f ma r s) Q ↔ RW (ma r s) fun ds s1 => RW (f ds s1) Q := by simp [mCall]
@[simp] theorem RW_call0 {f : MF} : RW (mCall0 f r s) Q ↔ RW (f [] s) Q := Iff.rfl
@[simp] theorem RW_ifE : RW (mIfE u m n r s) Q ↔ RW (u r s) fun b s1 => if b = true then RW (m r s1) Q else RW (n r s1) Q := by
  simp only [mIfE, RW_bind]
  constructor
  · intro h; refine h.imp fun d s1 q => ?_; cases d <;> simpa using q
  · intro h; refine h.imp fun d s1 q => ?_; cases d <;> simpa using q
@[simp] theorem RW_asB : RW (asB m r s) QB ↔ RW (m r s) fun d s1 => ∃ b, d = .bl b ∧ QB b s1 := by
  simp only [asB, RW_bind]
  constructor
  · intro h; refine h.imp fun d s1 q => ?_; cases d <;> simp_all
  · intro h; refine h.imp fun d s1 ⟨i, e, q⟩ => ?_; subst e; exact q
@[simp] theorem RW_asT : RW (asT m r s) QB ↔ RW (m r s) fun d s1 => ∃ b, truB s1 d = some b ∧ QB b s1 := by
  simp only [asT, RW_bind]
  constructor
  · intro h; refine h.imp fun d s1 q => ?_; split at q; exact ⟨_, by assumption, q⟩; exact q.elim
  · intro h; refine h.imp fun d s1 ⟨i, e, q⟩ => ?_; rw [e]; exact q
@[simp] theorem RW_ofB : RW (ofB u r s) Q ↔ RW (u r s) fun b s1 => Q (.bl b) s1 := by simp [ofB]
@[simp] theorem RW_yes : RW (mYes r s) QB ↔ QB true s := Iff.rfl
@[simp] theorem RW_not : RW (mNot u r s) QB ↔ RW (u r s) fun b s1 => QB (!b) s1 := by simp [mNot]
@[simp] theorem RW_and : RW (mAnd u w r s) QB ↔ RW (u r s) fun b s1 => if b = true then RW (w r s1) QB else QB false s1 := by
  simp only [mAnd, RW_bind]
  constructor
  · intro h; refine h.imp fun d s1 q => ?_; cases d <;> simpa using q
  · intro h; refine h.imp fun d s1 q => ?_; cases d <;> simpa using q
@[simp] theorem RW_or : RW (mOr u w r s) QB ↔ RW (u r s) fun b s1 => if b = true then QB true s1 else RW (w r s1) QB := by
  simp only [mOr, RW_bind]
  constructor
  · intro h; refine h.imp fun d s1 q => ?_; cases d <;> simpa using q
  · intro h; refine h.imp fun d s1 q => ?_; cases d <;> simpa using q
@[simp] theorem RW_chain {g g' : G2} : RW (mChain g g' m n o r s) Q ↔ RW (m r s) fun d s1 => RW (n r s1) fun e s2 => RW (R.of (g d e s2)) fun z s3 => ∃ b, z = .bl b ∧ (if b = true then RW (o r s3) fun f s4 => RW (R.of (g' e f s4)) Q else Q (.bl false) s3) := by
  simp only [mChain, RW_bind]
  constructor
  · intro h
    refine h.imp fun d s1 h => h.imp fun e s2 q => ?_
    cases hg : g d e s2 with
    | none => rw [hg] at q; exact q.elim
    | some z =>
      obtain ⟨z, s3⟩ := z
      rw [hg] at q
      cases z with
      | bl b => cases b <;> simpa using q
      | _ => exact q.elim
  · intro h
    refine h.imp fun d s1 h => h.imp fun e s2 q => ?_
    cases hg : g d e s2 with
    | none => rw [hg] at q; exact q.elim
    | some z =>
      obtain ⟨z, s3⟩ := z
      rw [hg] at q
      obtain ⟨b, e, q⟩ := q
      subst e
      cases b <;> simpa using q
@[simp] theorem RW_fld {cs : List Addr} {f : Str} : RW (mFld cs f m r s) Q ↔ RW (m r s) fun d s1 => ∃ k C fs v, d = .loc k ∧ s1[k]? = some (.ins C fs) ∧ C ∈ cs ∧ fs.lookup f = some v ∧ Q v s1 := by
  simp only [mFld, RW_bind]
  constructor
  · intro h
    refine h.imp fun d s1 q => ?_
    split at q <;> try exact q.elim
    split at q <;> try exact q.elim
    split at q <;> try exact q.elim
    split at q <;> try exact q.elim
    exact ⟨_, _, _, _, rfl, by assumption, by assumption, by assumption, q⟩
  · intro h
    refine h.imp fun d s1 ⟨k, C, fs, v, e1, e2, e3, e4, q⟩ => ?_
    subst e1
    simp only [e2, e3, e4, if_true]
    exact q
@[simp] theorem RW_meth {C : Addr} {x : Str} {f : MF} : RW (mMeth C x f m ma r s) Q ↔ RW (m r s) fun d s1 => ∃ k fs, d = .loc k ∧ s1[k]? = some (.ins C fs) ∧ fs.lookup x = none ∧ RW (ma r s1) fun ds s2 => RW (f (.loc k :: ds) s2) Q := by
  simp only [mMeth, RW_bind]
  constructor
  · intro h
    refine h.imp fun d s1 q => ?_
    split at q <;> try exact q.elim
    split at q <;> try exact q.elim
    split at q <;> try exact q.elim
    rename_i hc
    obtain ⟨rfl, hc⟩ := hc
    exact ⟨_, _, rfl, by assumption, hc, by simpa using q⟩
  · intro h
    refine h.imp fun d s1 ⟨k, fs, e1, e2, e3, q⟩ => ?_
    subst e1
    simp only [e2, e3]
    simpa using q
@[simp] theorem RW_make {C : Addr} {f : MF} : RW (mMake C f ma r s) Q ↔ RW (ma r s) fun ds s1 => RW (f (.loc s1.length :: ds) (s1 ++ [.ins C []])) fun d s2 => d = .non ∧ Q (.loc s1.length) s2 := by
  simp only [mMake, RW_bind]
  constructor
  · intro h; refine h.imp fun d s1 h => h.imp fun e s2 q => ?_; cases e <;> simp_all
  · intro h; refine h.imp fun d s1 h => h.imp fun e s2 ⟨e1, q⟩ => ?_; subst e1; exact q
@[simp] theorem RW_MB {g : GM} : RW (mMB g m ma r s) Q ↔ RW (m r s) fun d s1 => (itL s1 d).isSome = true ∧ RW (ma r s1) fun ds s2 => RW (R.of (g d ds s2)) Q := by
  simp only [mMB, RW_bind]
  constructor
  · intro h
    refine h.imp fun d s1 q => ?_
    cases hq : itL s1 d with
    | none => rw [hq] at q; exact q.elim
    | some _ => rw [hq] at q; exact ⟨rfl, by simpa using q⟩
  · intro h
    refine h.imp fun d s1 ⟨e, q⟩ => ?_
    cases hq : itL s1 d with
    | none => rw [hq] at e; cases e
    | some _ => simpa using q
@[simp] theorem RW_get2 {mk mx : ME} : RW (mGet2 m mk mx r s) Q ↔ RW (m r s) fun d s1 => ∃ l, d = .loc l ∧ (kvsOf s1 l).isSome = true ∧ RW (mk r s1) fun k s2 => RW (mx r s2) fun x s3 => ∃ kvs k', kvsOf s3 l = some kvs ∧ keyD k = some k' ∧ Q ((dGet kvs k').getD x) s3 := by
  simp only [mGet2, RW_bind]
  constructor
  · intro h
    refine h.imp fun d s1 q => ?_
    split at q <;> try exact q.elim
    split at q <;> try exact q.elim
    rename_i hk
    refine ⟨_, rfl, by rw [hk]; rfl, ?_⟩
    simp only [RW_bind] at q
    refine q.imp fun k s2 q => q.imp fun x s3 q => ?_
    split at q <;> try exact q.elim
    exact ⟨_, _, by assumption, by assumption, q⟩
  · intro h
    refine h.imp fun d s1 ⟨l, e, h1, q⟩ => ?_
    subst e
    obtain ⟨kvs, hk⟩ := Option.isSome_iff_exists.mp h1
    simp only [hk, RW_bind]
    refine q.imp fun k s2 q => q.imp fun x s3 ⟨kvs, k', e1, e2, q⟩ => ?_
    simp only [e1, e2]
    exact q
@[simp] theorem RW_rev : RW (mRev m r s) Q ↔ RW (m r s) fun d s1 => ∃ ds, d = .tup ds ∧ Q (.tup ds.reverse) s1 := by
  simp only [mRev, RW_bind]
  constructor
  · intro h; refine h.imp fun d s1 q => ?_; cases d <;> simp_all
  · intro h; refine h.imp fun d s1 ⟨i, e, q⟩ => ?_; subst e; exact q
@[simp] theorem RW_part_none {Q : Option Int → Sto → Prop} : RW (mPart none r s) Q ↔ Q none s := Iff.rfl
@[simp] theorem RW_part_some {Q : Option Int → Sto → Prop} : RW (mPart (some m) r s) Q ↔ RW (m r s) fun d s1 => ∃ i, d = .int i ∧ Q (some i) s1 := by
  simp only [mPart, RW_bind]
  constructor
  · intro h; refine h.imp fun d s1 q => ?_; cases d <;> simp_all
  · intro h; refine h.imp fun d s1 ⟨i, e, q⟩ => ?_; subst e; exact q
@[simp] theorem RW_sl {lo hi : Option ME} : RW (mSl m lo hi r s) Q ↔ RW (m r s) fun d s1 => RW (mPart lo r s1) fun l s2 => RW (mPart hi r s2) fun h s3 => RW (R.of (gSl s3 d l h)) Q := by simp [mSl]
@[simp] theorem RW_lc {mi : MI} {mg : MG} {tt : MT} {te : ME} {vs : List Nat} : RW (mLc mi mg tt te vs r s) QL ↔ RW (mi r s) fun q s1 => RW (mLcGo q.2 mg tt te (wipeD r vs) q.1 s1 []) QL := by simp [mLc]
@[simp] theorem RW_dc {mi : MI} {mg : MG} {tt : MT} {tk tv : ME} {vs : List Nat} {Q : List (Key × D) → Sto → Prop} : RW (mDc mi mg tt tk tv vs r s) Q ↔ RW (mi r s) fun q s1 => RW (mDcGo q.2 mg tt tk tv (wipeD r vs) q.1 s1 []) Q := by simp [mDc]
@[simp] theorem RW_dictOf {Q : List (Key × D) → Sto → Prop} : RW (mDictOf m r s) Q ↔ RW (m r s) fun d s1 => ∃ l kvs, d = .loc l ∧ kvsOf s1 l = some kvs ∧ Q kvs s1 := by
  simp only [mDictOf, RW_bind]
  constructor
  · intro h
    refine h.imp fun d s1 q => ?_
    split at q <;> try exact q.elim
    split at q <;> try exact q.elim
    exact ⟨_, _, rfl, by assumption, q⟩
  · intro h
    refine h.imp fun d s1 ⟨l, kvs, e, h1, q⟩ => ?_
    subst e
    simp only [h1]
    exact q
abbrev QI := List D × List (Nat × Ob) → Sto → Prop
@[simp] theorem RW_it {Q : QI} : RW (mIt m r s) Q ↔ RW (m r s) fun d s1 => ∃ q, srcD s1 d = some q ∧ Q q s1 := by
  simp only [mIt, RW_bind]
  constructor
  · intro h
    refine h.imp fun d s1 q => ?_
    cases d with
    | tup ds => exact ⟨_, rfl, q⟩
    | loc l =>
      simp only at q
      split at q <;> try exact q.elim
      rename_i h1
      exact ⟨_, by simp [srcD, h1], q⟩
    | _ => exact q.elim
  · intro h
    refine h.imp fun d s1 ⟨q, e, h⟩ => ?_
    cases d with
    | tup ds => simp only [srcD] at e; cases e; exact h
    | loc l =>
      simp only [srcD] at e
      split at e <;> cases e
      rename_i h1
      simp only [h1]
      exact h
    | _ => cases e
@[simp] theorem RW_rg1 {Q : QI} : RW (mRg1 m r s) Q ↔ RW (m r s) fun d s1 => ∃ j, d = .int j ∧ -(2 ^ 62) ≤ j ∧ j < 2 ^ 62 ∧ Q ((List.range j.toNat).map fun (i : Nat) => D.int (0 + i), []) s1 := by
  simp only [mRg1, RW_bind]
  constructor
  · intro h
    refine h.imp fun d s1 q => ?_
    split at q <;> try exact q.elim
    split at q <;> try exact q.elim
    rename_i hc
    exact ⟨_, rfl, hc.1, hc.2, q⟩
  · intro h
    refine h.imp fun d s1 ⟨j, e, h1, h2, q⟩ => ?_
    subst e
    simp only [h1, h2, and_self, if_true]
    exact q
@[simp] theorem RW_rg2 {Q : QI} : RW (mRg2 m n r s) Q ↔ RW (m r s) fun d s1 => RW (n r s1) fun e s2 => ∃ i j, d = .int i ∧ e = .int j ∧ (-(2 ^ 62) ≤ i ∧ i < 2 ^ 62 ∧ -(2 ^ 62) ≤ j ∧ j < 2 ^ 62) ∧ Q ((List.range (j - i).toNat).map fun (k : Nat) => D.int (i + k), []) s2 := by
  simp only [mRg2, RW_bind]
  constructor
  · intro h
    refine h.imp fun d s1 h => h.imp fun e s2 q => ?_
    split at q <;> try exact q.elim
    split at q <;> try exact q.elim
    rename_i hc
    exact ⟨_, _, rfl, rfl, hc, q⟩
  · intro h
    refine h.imp fun d s1 h => h.imp fun e s2 ⟨i, j, e1, e2, h1, q⟩ => ?_
    subst e1 e2
    simp only [h1, and_self, if_true]
    exact q
@[simp] theorem RW_zip {Q : QI} : RW (mZip m n r s) Q ↔ RW (m r s) fun d s1 => RW (n r s1) fun e s2 => ∃ xs g1 ys g2, srcD s2 d = some (xs, g1) ∧ srcD s2 e = some (ys, g2) ∧ Q (List.zipWith (fun x y => .tup [x, y]) xs ys, g1 ++ g2) s2 := by
  simp only [mZip, RW_bind]
  constructor
  · intro h
    refine h.imp fun d s1 h => h.imp fun e s2 q => ?_
    split at q <;> try exact q.elim
    exact ⟨_, _, _, _, by assumption, by assumption, q⟩
  · intro h
    refine h.imp fun d s1 h => h.imp fun e s2 ⟨xs, g1, ys, g2, e1, e2, q⟩ => ?_
    simp only [e1, e2]
    exact q
@[simp] theorem RW_enum {Q : QI} : RW (mEnum m r s) Q ↔ RW (m r s) fun d s1 => ∃ xs g1, srcD s1 d = some (xs, g1) ∧ Q (numbered 0 xs, g1) s1 := by
  simp only [mEnum, RW_bind]
  constructor
  · intro h
    refine h.imp fun d s1 q => ?_
    split at q <;> try exact q.elim
    exact ⟨_, _, by assumption, q⟩
  · intro h
    refine h.imp fun d s1 ⟨xs, g1, e1, q⟩ => ?_
    simp only [e1]
    exact q
@[simp] theorem RW_keys {Q : QI} : RW (mKeys m r s) Q ↔ RW (m r s) fun d s1 => ∃ l kvs, d = .loc l ∧ s1[l]? = some (.lok kvs) ∧ Q (kvs.map fun kv => keyV kv.1, [(l, .lok kvs)]) s1 := by
  simp only [mKeys, RW_bind]
  constructor
  · intro h
    refine h.imp fun d s1 q => ?_
    split at q <;> try exact q.elim
    split at q <;> try exact q.elim
    exact ⟨_, _, rfl, by assumption, q⟩
  · intro h
    refine h.imp fun d s1 ⟨l, kvs, e, h1, q⟩ => ?_
    subst e
    simp only [h1]
    exact q
/-- a dict locked meanwhile -/
theorem RW_lock {mo : ME} {m : Env → Sto → R α} {Q : α → Sto → Prop} {l : Nat} {kvs : List (Key × D)} (h : lockAt mo r s = some (l, kvs)) (q : RW (m r (s.set l (.lok kvs))) fun a s1 => ∃ kvs', s1[l]? = some (.lok kvs') ∧ Q a (s1.set l (.dct kvs'))) : RW (mLock mo m r s) Q := by
  unfold mLock
  rw [h]
  obtain ⟨a, s1, e, kvs', h1, h2⟩ := q.get
  simp only [e, unlock, h1]
  exact h2
end
section
variable {s : Sto} {r : Env} {Qn Qb Qc : Env → Sto → Prop} {Qr : D → Sto → Prop} {m n o : ME} {ma : MA} {u : MT} {a b : MS}
@[simp] theorem SW_next : SW (mNext r s) Qn Qr Qb Qc ↔ Qn r s := Iff.rfl
@[simp] theorem SW_brk : SW (mBrk r s) Qn Qr Qb Qc ↔ Qb r s := Iff.rfl
@[simp] theorem SW_ct : SW (mCt r s) Qn Qr Qb Qc ↔ Qc r s := Iff.rfl
@[simp] theorem SW_never : SW (mNever r s) Qn Qr Qb Qc ↔ False := Iff.rfl
@[simp] theorem SW_ret : SW (mRet m r s) Qn Qr Qb Qc ↔ RW (m r s) Qr := by
  unfold mRet
  cases m r s <;> simp [SW, RW]
@[simp] theorem SW_drop : SW (mDrop m r s) Qn Qr Qb Qc ↔ RW (m r s) fun _ s1 => Qn r s1 := by
  unfold mDrop
  cases m r s <;> simp [SW, RW]
@[simp] theorem SW_asg {g : MG} : SW (mAsg m g r s) Qn Qr Qb Qc ↔ RW (m r s) fun d s1 => RW (g d r s1) Qn := by
  unfold mAsg
  cases m r s with
  | ok d s1 => cases h : g d r s1 <;> simp [SW, RW, h]
  | exc _ _ => simp [SW, RW]
  | bad => simp [SW, RW]
@[simp] theorem RW_gName {i : Nat} {d : D} {Q : Env → Sto → Prop} : RW (mgName i d r s) Q ↔ Q (r.set i (some d)) s := Iff.rfl
@[simp] theorem RW_gNil {ds : List D} {Q : Env → Sto → Prop} : RW (mgNil ds r s) Q ↔ ds = [] ∧ Q r s := by
  cases ds <;> simp [mgNil]
@[simp] theorem RW_gCons {g : MG} {gs : List D → Env → Sto → R Env} {ds : List D} {Q : Env → Sto → Prop} : RW (mgCons g gs ds r s) Q ↔ ∃ d rest, ds = d :: rest ∧ RW (g d r s) fun r1 s1 => RW (gs rest r1 s1) Q := by
  cases ds with
  | nil => simp [mgCons]
  | cons d rest =>
    simp only [mgCons, RW_bind]
    constructor
    · exact fun h => ⟨d, rest, rfl, h⟩
    · rintro ⟨d, rest, e, h⟩
      cases e
      exact h
@[simp] theorem RW_gTup {k : Nat} {gs : List D → Env → Sto → R Env} {d : D} {Q : Env → Sto → Prop} : RW (mgTup k gs d r s) Q ↔ ∃ ds, d = .tup ds ∧ ds.length = k ∧ RW (gs ds r s) Q := by
  cases d <;> simp [mgTup]
  split <;> simp_all
@[simp] theorem SW_seq : SW (mSeq a b r s) Qn Qr Qb Qc ↔ SW (a r s) (fun r1 s1 => SW (b r1 s1) Qn Qr Qb Qc) Qr Qb Qc := by
  unfold mSeq
  cases h : a r s <;> simp [SW, h]
@[simp] theorem SW_if : SW (mIf u a b r s) Qn Qr Qb Qc ↔ RW (u r s) fun k s1 => if k = true then SW (a r s1) Qn Qr Qb Qc else SW (b r s1) Qn Qr Qb Qc := by
  unfold mIf
  cases h : u r s with
  | ok k s1 => cases k <;> simp [SW, RW]
  | exc _ _ => simp [SW, RW]
  | bad => simp [SW, RW]
@[simp] theorem SW_par {i j : Nat} : SW (mPar i j ma r s) Qn Qr Qb Qc ↔ RW (ma r s) fun ds s1 => ∃ d e, ds = [d, e] ∧ Qn ((r.set i (some d)).set j (some e)) s1 := by
  unfold mPar
  cases h : ma r s with
  | ok ds s1 =>
    simp only [RW_ok]
    constructor
    · intro q
      split at q
      · rename_i he
        cases he
        exact ⟨_, _, rfl, q⟩
      · exact q.elim
      · exact q.elim
      · exact q.elim
    · rintro ⟨d, e, rfl, q⟩
      exact q
  | exc _ _ => simp [SW, RW]
  | bad => simp [SW, RW]
@[simp] theorem SW_setFld {cs : List Addr} {f : Str} {mo mv : ME} : SW (mSetFld cs f mo mv r s) Qn Qr Qb Qc ↔ RW (mv r s) fun v s1 => RW (mo r s1) fun d s2 => ∃ l C fs, d = .loc l ∧ s2[l]? = some (.ins C fs) ∧ C ∈ cs ∧ fs.length < 1000 ∧ Qn r (s2.set l (.ins C (putD f v fs))) := by
  unfold mSetFld
  cases h : mv r s with
  | ok v s1 =>
    simp only [RW_ok]
    cases h2 : mo r s1 with
    | ok d s2 =>
      simp only [RW_ok]
      constructor
      · intro q
        split at q <;> try exact q.elim
        · rename_i l he
          cases he
          split at q <;> try exact q.elim
          split at q <;> try exact q.elim
          rename_i hc
          exact ⟨_, _, _, rfl, by assumption, hc.1, hc.2, q⟩
      · rintro ⟨l, C, fs, rfl, e2, e3, e4, q⟩
        simp only [e2, e3, e4, and_self, if_true]
        exact q
    | exc _ _ => simp [SW, RW]
    | bad => simp [SW, RW]
  | exc _ _ => simp [SW, RW]
  | bad => simp [SW, RW]
@[simp] theorem SW_setIx {mv mo mi : ME} : SW (mSetIx mv mo mi r s) Qn Qr Qb Qc ↔ RW (mv r s) fun v s1 => RW (mo r s1) fun o s2 => RW (mi r s2) fun i s3 => ∃ s4, gSet o i v s3 = some s4 ∧ Qn r s4 := by
  unfold mSetIx
  cases h : mv r s with
  | ok v s1 =>
    simp only [RW_ok]
    cases h2 : mo r s1 with
    | ok d s2 =>
      simp only [RW_ok]
      cases h3 : mi r s2 with
      | ok i s3 =>
        simp only [RW_ok]
        cases h4 : gSet d i v s3 <;> simp [SW]
      | exc _ _ => simp [SW, RW]
      | bad => simp [SW, RW]
    | exc _ _ => simp [SW, RW]
    | bad => simp [SW, RW]
  | exc _ _ => simp [SW, RW]
  | bad => simp [SW, RW]
@[simp] theorem SW_for {mi : MI} {mg : MG} : SW (mFor mi mg a r s) Qn Qr Qb Qc ↔ RW (mi r s) fun q s1 => SW (mForGo q.2 mg a q.1 r s1) Qn Qr Qb Qc := by
  unfold mFor
  cases h : mi r s with
  | ok q s1 => obtain ⟨ds, gs⟩ := q; simp
  | exc _ _ => simp [SW, RW]
  | bad => simp [SW, RW]
theorem SW_lock {mo : ME} {l : Nat} {kvs : List (Key × D)} (h : lockAt mo r s = some (l, kvs)) (q : SW (a r (s.set l (.lok kvs))) (fun r1 s1 => ∃ kvs', s1[l]? = some (.lok kvs') ∧ Qn r1 (s1.set l (.dct kvs'))) (fun d s1 => ∃ kvs', s1[l]? = some (.lok kvs') ∧ Qr d (s1.set l (.dct kvs'))) (fun _ _ => False) (fun _ _ => False)) : SW (mLockS mo a r s) Qn Qr Qb Qc := by
  unfold mLockS
  rw [h]
  show SW (unlockS l (a r (s.set l (.lok kvs)))) Qn Qr Qb Qc
  cases e : a r (s.set l (.lok kvs)) with
  | nx r1 s1 => rw [e] at q; obtain ⟨kvs', h1, h2⟩ := q; simp only [unlockS, h1]; exact h2
  | rt d s1 => rw [e] at q; obtain ⟨kvs', h1, h2⟩ := q; simp only [unlockS, h1]; exact h2
  | bk _ _ => rw [e] at q; exact q.elim
  | ct _ _ => rw [e] at q; exact q.elim
  | exc _ _ _ => rw [e] at q; exact q.elim
  | bad => rw [e] at q; exact q.elim
/-- a loop -/
theorem for_go {gs : List (Nat × Ob)} {tg : MG} {ds : List D} (Inv : Nat → Env → Sto → Prop) (hg : ∀ i r s, i ≤ ds.length → Inv i r s → guard gs s = true)
    (hs : ∀ i d r s, ds[i]? = some d → Inv i r s → RW (tg d r s) fun r1 s1 => SW (a r1 s1) (Inv (i + 1)) Qr Qn (Inv (i + 1))) (he : ∀ r s, Inv ds.length r s → Qn r s) : ∀ (k : Nat) (r : Env) (s : Sto), k ≤ ds.length → Inv k r s → SW (mForGo gs tg a (ds.drop k) r s) Qn Qr Qb Qc := by
  have key : ∀ (j k : Nat) (r : Env) (s : Sto), k + j = ds.length → Inv k r s → SW (mForGo gs tg a (ds.drop k) r s) Qn Qr Qb Qc := by
    intro j
    induction j with
    | zero =>
      intro k r s hk hi
      have : k = ds.length := by omega
      subst this
      rw [List.drop_length]
      simp only [mForGo]
      rw [if_pos (hg _ _ _ (Nat.le_refl _) hi)]
      exact he _ _ hi
    | succ j ih =>
      intro k r s hk hi
      have hlt : k < ds.length := by omega
      rw [List.drop_eq_getElem_cons hlt]
      simp only [mForGo]
      rw [if_pos (hg _ _ _ (Nat.le_of_lt hlt) hi)]
      have q := hs k ds[k] r s (List.getElem?_eq_getElem hlt) hi
      obtain ⟨r1, s1, e, q⟩ := q.get
      simp only [e]
      cases hb : a r1 s1 with
      | nx r2 s2 => rw [hb] at q; exact ih (k + 1) r2 s2 (by omega) q
      | ct r2 s2 => rw [hb] at q; exact ih (k + 1) r2 s2 (by omega) q
      | bk r2 s2 => rw [hb] at q; exact q
      | rt d s2 => rw [hb] at q; exact q
      | exc _ _ _ => rw [hb] at q; exact q.elim
      | bad => rw [hb] at q; exact q.elim
  intro k r s hk hi
  exact key (ds.length - k) k r s (by omega) hi
theorem SW_forGo {gs : List (Nat × Ob)} {tg : MG} {ds : List D} (Inv : Nat → Env → Sto → Prop) (h0 : Inv 0 r s) (hg : ∀ i r s, i ≤ ds.length → Inv i r s → guard gs s = true)
    (hs : ∀ i d r s, ds[i]? = some d → Inv i r s → RW (tg d r s) fun r1 s1 => SW (a r1 s1) (Inv (i + 1)) Qr Qn (Inv (i + 1))) (he : ∀ r s, Inv ds.length r s → Qn r s) : SW (mForGo gs tg a ds r s) Qn Qr Qb Qc := by
  have := for_go (Qb := Qb) (Qc := Qc) Inv hg hs he 0 r s (Nat.zero_le _) h0
  simpa using this
/-- while -/
theorem SW_wh {c : MT} (Inv : Nat → Env → Sto → Prop) (hs : ∀ k r s, Inv k r s → RW (c r s) fun b s1 => if b = true then SW (a r s1) (fun r2 s2 => ∃ j, j < k ∧ Inv j r2 s2) Qr Qn (fun r2 s2 => ∃ j, j < k ∧ Inv j r2 s2) else Qn r s1) :
    ∀ (k : Nat) (r : Env) (s : Sto), Inv k r s → SW (mWh c a r s) Qn Qr Qb Qc := by
  have key : ∀ (k : Nat) (r : Env) (s : Sto), Inv k r s → ∃ x, mWhN c a (k + 1) r s = some x ∧ SW x Qn Qr Qb Qc := by
    intro k
    induction k using Nat.strongRecOn with
    | _ k ih =>
      intro r s hi
      obtain ⟨b, s1, e, q⟩ := (hs k r s hi).get
      have unf : ∀ j, mWhN c a (j + 1) r s = (match c r s with
        | .ok true s1 => (match a r s1 with
          | .nx r2 s2 => mWhN c a j r2 s2
          | .ct r2 s2 => mWhN c a j r2 s2
          | .bk r2 s2 => some (.nx r2 s2)
          | .rt d s2 => some (.rt d s2)
          | .exc e r2 s2 => some (.exc e r2 s2)
          | .bad => some .bad)
        | .ok false s1 => some (.nx r s1)
        | .exc e s1 => some (.exc e r s1)
        | .bad => some .bad) := fun j => rfl
      rw [unf, e]
      cases b with
      | false => exact ⟨.nx r s1, rfl, by simpa [SW] using q⟩
      | true =>
        simp only [if_true] at q
        cases hb : a r s1 with
        | nx r2 s2 =>
          rw [hb] at q
          obtain ⟨j, hj, hi2⟩ := q
          obtain ⟨x, h1, h2⟩ := ih j hj r2 s2 hi2
          refine ⟨x, ?_, h2⟩
          simp only [hb]
          exact mWhN_le h1 (by omega)
        | ct r2 s2 =>
          rw [hb] at q
          obtain ⟨j, hj, hi2⟩ := q
          obtain ⟨x, h1, h2⟩ := ih j hj r2 s2 hi2
          refine ⟨x, ?_, h2⟩
          simp only [hb]
          exact mWhN_le h1 (by omega)
        | bk r2 s2 => rw [hb] at q; exact ⟨.nx r2 s2, by simp only [hb], q⟩
        | rt d s2 => rw [hb] at q; exact ⟨.rt d s2, by simp only [hb], q⟩
        | exc _ _ _ => rw [hb] at q; exact q.elim
        | bad => rw [hb] at q; exact q.elim
  intro k r s hi
  obtain ⟨x, h1, h2⟩ := key k r s hi
  rw [mWh_eq h1]
  exact h2
end
@[simp] theorem RW_def {nN np : Nat} {mb : MS} {ds : List D} {s : Sto} {Q : D → Sto → Prop} : RW (mDef nN np mb ds s) Q ↔ ds.length = np ∧ SW (mb (ds.map some ++ List.replicate (nN - np) none) s) (fun _ s1 => Q .non s1) Q (fun _ _ => False) (fun _ _ => False) := by
  unfold mDef
  split
  · rename_i h
    simp only [h, true_and]
    cases mb (ds.map some ++ List.replicate (nN - np) none) s <;> simp [SW, RW]
  · rename_i h
    simp [h]
@[simp] theorem guard_nil {s : Sto} : guard [] s = true := by simp [guard]
@[simp] theorem guard_one {s : Sto} {n : Nat} {ob : Ob} : guard [(n, ob)] s = true ↔ s[n]? = some ob := by simp [guard]
theorem guard_two {s : Sto} {g1 g2 : List (Nat × Ob)} : guard (g1 ++ g2) s = true ↔ guard g1 s = true ∧ guard g2 s = true := by
  simp only [guard_iff, List.mem_append]
  constructor
  · intro h; exact ⟨fun q hq => h q (.inl hq), fun q hq => h q (.inr hq)⟩
  · rintro ⟨h1, h2⟩ q (hq | hq)
    · exact h1 q hq
    · exact h2 q hq
/-! ### comprehensions -/
section
variable {gs : List (Nat × Ob)} {tg : MG} {tt : MT} {te tk tv : ME} {r : Env} {ds : List D}
theorem RW_lcGo {s : Sto} {Q : List D → Sto → Prop} (Inv : Nat → Sto → List D → Prop) (h0 : Inv 0 s []) (hg : ∀ i s acc, i ≤ ds.length → Inv i s acc → guard gs s = true)
    (hs : ∀ i d s acc, ds[i]? = some d → Inv i s acc → RW (tg d r s) fun r1 s1 => RW (tt r1 s1) fun b s2 => if b = true then RW (te r1 s2) (fun y s3 => acc.length < sizeLine ∧ Inv (i + 1) s3 (acc ++ [y])) else Inv (i + 1) s2 acc)
    (he : ∀ s acc, Inv ds.length s acc → Q acc s) : RW (mLcGo gs tg tt te r ds s []) Q := by
  have key : ∀ (j k : Nat) (s : Sto) (acc : List D), k + j = ds.length → Inv k s acc → RW (mLcGo gs tg tt te r (ds.drop k) s acc) Q := by
    intro j
    induction j with
    | zero =>
      intro k s acc hk hi
      have : k = ds.length := by omega
      subst this
      rw [List.drop_length]
      simp only [mLcGo]
      rw [if_pos (hg _ _ _ (Nat.le_refl _) hi)]
      exact he _ _ hi
    | succ j ih =>
      intro k s acc hk hi
      have hlt : k < ds.length := by omega
      rw [List.drop_eq_getElem_cons hlt]
      simp only [mLcGo]
      rw [if_pos (hg _ _ _ (Nat.le_of_lt hlt) hi)]
      obtain ⟨r1, s1, e, q⟩ := (hs k ds[k] s acc (List.getElem?_eq_getElem hlt) hi).get
      simp only [e]
      obtain ⟨b, s2, e2, q⟩ := q.get
      simp only [e2]
      cases b with
      | false => exact ih (k + 1) s2 acc (by omega) (by simpa using q)
      | true =>
        simp only [if_true] at q
        obtain ⟨y, s3, e3, hl, q⟩ := q.get
        simp only [e3]
        rw [if_pos hl]
        exact ih (k + 1) s3 _ (by omega) q
  have := key ds.length 0 s [] (by omega) h0
  simpa using this
/-- nothing changes: filtered and mapped -/
theorem lc_pure {s : Sto} {f : D → D} {b : D → Bool} (hg : guard gs s = true) (hl : ds.length ≤ sizeLine) (h : ∀ d ∈ ds, ∃ r1, tg d r s = .ok r1 s ∧ tt r1 s = .ok (b d) s ∧ (b d = true → te r1 s = .ok (f d) s)) :
    mLcGo gs tg tt te r ds s [] = .ok ((ds.filter b).map f) s := by
  have key : ∀ (es : List D) (acc : List D), (∀ d ∈ es, d ∈ ds) → acc.length + es.length ≤ sizeLine → mLcGo gs tg tt te r es s acc = .ok (acc ++ (es.filter b).map f) s := by
    intro es
    induction es with
    | nil => intro acc _ _; simp [mLcGo, hg]
    | cons d es ih =>
      intro acc hm hl
      obtain ⟨r1, h1, h2, h3⟩ := h d (hm d List.mem_cons_self)
      simp only [List.length_cons] at hl
      simp only [mLcGo]
      rw [if_pos hg]
      simp only [h1, h2]
      cases hb : b d with
      | false =>
        simp only
        rw [ih acc (fun x hx => hm x (List.mem_cons_of_mem _ hx)) (by omega)]
        simp [hb]
      | true =>
        simp only [h3 hb]
        rw [if_pos (by omega), ih _ (fun x hx => hm x (List.mem_cons_of_mem _ hx)) (by simp; omega)]
        simp [hb]
  simpa using key ds [] (fun d hd => hd) (by simpa using hl)
theorem dc_pure {s : Sto} {f : D → Key × D} {b : D → Bool} (hg : guard gs s = true) (hl : ds.length ≤ sizeLine) (h : ∀ d ∈ ds, ∃ r1 k, tg d r s = .ok r1 s ∧ tt r1 s = .ok (b d) s ∧ (b d = true → tk r1 s = .ok k s ∧ keyD k = some (f d).1 ∧ tv r1 s = .ok (f d).2 s)) :
    mDcGo gs tg tt tk tv r ds s [] = .ok (((ds.filter b).map f).foldl (fun acc kv => dPut acc kv.1 kv.2) []) s := by
  have plen : ∀ (acc : List (Key × D)) (k : Key) (v : D), (dPut acc k v).length ≤ acc.length + 1 := fun acc k v => by
    unfold dPut
    split <;> simp
  have key : ∀ (es : List D) (acc : List (Key × D)), (∀ d ∈ es, d ∈ ds) → acc.length + es.length ≤ sizeLine → mDcGo gs tg tt tk tv r es s acc = .ok (((es.filter b).map f).foldl (fun acc kv => dPut acc kv.1 kv.2) acc) s := by
    intro es
    induction es with
    | nil => intro acc _ _; simp [mDcGo, hg]
    | cons d es ih =>
      intro acc hm hl
      obtain ⟨r1, k, h1, h2, h3⟩ := h d (hm d List.mem_cons_self)
      simp only [List.length_cons] at hl
      simp only [mDcGo]
      rw [if_pos hg]
      simp only [h1, h2]
      cases hb : b d with
      | false =>
        simp only
        rw [ih acc (fun x hx => hm x (List.mem_cons_of_mem _ hx)) (by omega)]
        simp [hb]
      | true =>
        obtain ⟨h4, h5, h6⟩ := h3 hb
        simp only [h4, h5, h6]
        have := plen acc (f d).1 (f d).2
        rw [if_pos (by omega), ih _ (fun x hx => hm x (List.mem_cons_of_mem _ hx)) (by omega)]
        simp [hb]
  exact key ds [] (fun d hd => hd) (by simpa using hl)
end
theorem small24 {n : Nat} (h : n ≤ 1000000) : n ≤ sizeLine := by rw [sizeLine_eq]; omega
theorem small24' {n : Nat} (h : n ≤ 1000000) : n < sizeLine := by rw [sizeLine_eq]; omega
end DL
namespace DL
open PySem PySem.Spec L2
open PyProof.Rows hiding St
/-! ### small steps -/
section
variable {s : Sto} {i j : Int} {d : D} {n : Nat} {xs ys : List D} {b c : Bool} {x y : Str}
@[simp] theorem gAdd_int : gAdd (.int i) (.int j) s = some (.int (i + j), s) := rfl
@[simp] theorem gAdd_ib : gAdd (.int i) (.bl b) s = some (.int (i + b2i b), s) := rfl
@[simp] theorem gSub_int : gSub (.int i) (.int j) s = some (.int (i - j), s) := rfl
theorem gAdd_tup (h : xs.length + ys.length ≤ sizeLine) : gAdd (.tup xs) (.tup ys) s = some (.tup (xs ++ ys), s) := by simp only [gAdd]; rw [if_pos h]
@[simp] theorem gMul_l (h : -(2 ^ 64) < i ∧ i < 2 ^ 64) : gMul (.int i) (.int j) s = some (.int (i * j), s) := by simp only [gMul]; rw [if_pos (.inl h)]
@[simp] theorem gMul_r (h : -(2 ^ 64) < j ∧ j < 2 ^ 64) : gMul (.int i) (.int j) s = some (.int (i * j), s) := by simp only [gMul]; rw [if_pos (.inr h)]
@[simp] theorem gMod_int (h : 0 < j) : gMod (.int i) (.int j) s = some (.int (i % j), s) := by simp only [gMod]; rw [if_pos h]
@[simp] theorem gFdiv_int (h : 0 < j ∧ j < 1073741824) : gFdiv (.int i) (.int j) s = some (.int (i / j), s) := by simp only [gFdiv]; rw [if_pos h]
@[simp] theorem gPow_int (h : 0 ≤ j ∧ j ≤ 1000000 ∧ i.natAbs < 2 ^ 64) : gPow (.int i) (.int j) s = some (.int (i ^ j.toNat), s) := by simp only [gPow]; rw [if_pos h]
@[simp] theorem gEq_int : gEq (.int i) (.int j) s = some (.bl (decide (i = j)), s) := rfl
@[simp] theorem gNe_int : gNe (.int i) (.int j) s = some (.bl (!decide (i = j)), s) := rfl
@[simp] theorem gEq_bl : gEq (.bl b) (.bl c) s = some (.bl (decide (b = c)), s) := rfl
@[simp] theorem gNe_bl : gNe (.bl b) (.bl c) s = some (.bl (!decide (b = c)), s) := rfl
@[simp] theorem gEq_str : gEq (.str x) (.str y) s = some (.bl (decide (x = y)), s) := rfl
@[simp] theorem gLt_int : gLt (.int i) (.int j) s = some (.bl (decide (i < j)), s) := rfl
@[simp] theorem gLe_int : gLe (.int i) (.int j) s = some (.bl (decide (i ≤ j)), s) := rfl
@[simp] theorem gGt_int : gGt (.int i) (.int j) s = some (.bl (decide (j < i)), s) := rfl
@[simp] theorem gGe_int : gGe (.int i) (.int j) s = some (.bl (decide (j ≤ i)), s) := rfl
@[simp] theorem gIs_nn : gIs .non .non s = some (.bl true, s) := rfl
@[simp] theorem gIs_in : gIs (.int i) .non s = some (.bl false, s) := rfl
@[simp] theorem gIs_tn : gIs (.tup xs) .non s = some (.bl false, s) := rfl
@[simp] theorem gIs_ln : gIs (.loc n) .non s = some (.bl false, s) := rfl
@[simp] theorem gIs_bn : gIs (.bl b) .non s = some (.bl false, s) := rfl
@[simp] theorem gIs_sn : gIs (.str x) .non s = some (.bl false, s) := rfl
@[simp] theorem gIs_bb : gIs (.bl b) (.bl c) s = some (.bl (decide (b = c)), s) := rfl
@[simp] theorem gIsNot_nn : gIsNot .non .non s = some (.bl false, s) := rfl
@[simp] theorem gIsNot_in : gIsNot (.int i) .non s = some (.bl true, s) := rfl
@[simp] theorem gIsNot_tn : gIsNot (.tup xs) .non s = some (.bl true, s) := rfl
@[simp] theorem gIsNot_ln : gIsNot (.loc n) .non s = some (.bl true, s) := rfl
@[simp] theorem gIsNot_bn : gIsNot (.bl b) .non s = some (.bl true, s) := rfl
@[simp] theorem gIsNot_sn : gIsNot (.str x) .non s = some (.bl true, s) := rfl
@[simp] theorem gIsNot_bb : gIsNot (.bl b) (.bl c) s = some (.bl (!decide (b = c)), s) := rfl
@[simp] theorem gInt_int : gInt [.int i] s = some (.int i, s) := rfl
@[simp] theorem gInt_bl : gInt [.bl b] s = some (.int (if b then 1 else 0), s) := rfl
@[simp] theorem gAbs_int : gAbs [.int i] s = some (.int (if i < 0 then -i else i), s) := rfl
@[simp] theorem gLen_tup : gLen [.tup xs] s = some (.int xs.length, s) := rfl
theorem gLen_lst (h : s[n]? = some (.lst xs)) : gLen [.loc n] s = some (.int xs.length, s) := by simp [gLen, lenD, h]
theorem gLen_dct {kvs : List (Key × D)} (h : s[n]? = some (.dct kvs)) : gLen [.loc n] s = some (.int kvs.length, s) := by simp [gLen, lenD, h]
@[simp] theorem gIx_tup : gIx (.tup xs) (.int j) s = (atI xs j).map fun z => (z, s) := rfl
theorem gIx_lst (h : s[n]? = some (.lst xs)) : gIx (.loc n) (.int j) s = (atI xs j).map fun z => (z, s) := by simp [gIx, h]
theorem gIx_dct {kvs : List (Key × D)} (h : s[n]? = some (.dct kvs)) : gIx (.loc n) d s = (keyD d).bind fun k => (dGet kvs k).map fun z => (z, s) := by simp [gIx, h]
theorem gIx_lok {kvs : List (Key × D)} (h : s[n]? = some (.lok kvs)) : gIx (.loc n) d s = (keyD d).bind fun k => (dGet kvs k).map fun z => (z, s) := by simp [gIx, h]
theorem gSet_lst {k : Int} {m : Nat} {v : D} (h : s[n]? = some (.lst xs)) (hk : ixN xs.length k = some m) : gSet (.loc n) (.int k) v s = some (s.set n (.lst (xs.set m v))) := by simp [gSet, h, hk]
theorem ixN_nn {m : Nat} (h0 : 0 ≤ i) (h : i.toNat < m) : ixN m i = some i.toNat := by
  unfold ixN
  by_cases hc : i < 0
  · omega
  · first
      | (simp only [hc, if_false]; rw [if_pos h])
      | (simp [hc]; omega)
      | simp_all
theorem atI_nn (h0 : 0 ≤ i) (h : i.toNat < xs.length) : atI xs i = xs[i.toNat]? := by
  unfold atI
  rw [ixN_nn h0 h]
  rfl
theorem atI_in {a : D} (h0 : 0 ≤ i) (h : xs[i.toNat]? = some a) : atI xs i = some a := by
  rw [atI_nn h0 (List.getElem?_eq_some_iff.mp h).1, h]
@[simp] theorem atI_0 {a : D} : atI (a :: xs) 0 = some a := atI_in (by decide) rfl
@[simp] theorem atI_1 {a e : D} : atI (a :: e :: xs) 1 = some e := atI_in (by decide) rfl
@[simp] theorem atI_2 {a e f : D} : atI (a :: e :: f :: xs) 2 = some f := atI_in (by decide) rfl
@[simp] theorem atI_3 {a e f g : D} : atI (a :: e :: f :: g :: xs) 3 = some g := atI_in (by decide) rfl
@[simp] theorem atI_4 {a e f g k : D} : atI (a :: e :: f :: g :: k :: xs) 4 = some k := atI_in (by decide) rfl
@[simp] theorem gIsi_tup {t : String} : gIsi [.tup xs, .con (.ty t)] s = (kitB "tuple" t).map fun b => (.bl b, s) := rfl
@[simp] theorem gIsi_int {t : String} : gIsi [.int i, .con (.ty t)] s = (kitB "int" t).map fun b => (.bl b, s) := rfl
@[simp] theorem gIsi_bl {t : String} : gIsi [.bl b, .con (.ty t)] s = (kitB "bool" t).map fun b => (.bl b, s) := rfl
@[simp] theorem gIsi_str {t : String} : gIsi [.str x, .con (.ty t)] s = (kitB "str" t).map fun b => (.bl b, s) := rfl
@[simp] theorem gIsi_non {t : String} : gIsi [.non, .con (.ty t)] s = (kitB "NoneType" t).map fun b => (.bl b, s) := rfl
end
end DL
namespace DL
open PySem PySem.Spec L2
open PyProof.Rows hiding St
@[simp] theorem kb_NoneType_int : kitB "NoneType" "int" = some false := by decide +kernel
@[simp] theorem kb_NoneType_bool : kitB "NoneType" "bool" = some false := by decide +kernel
@[simp] theorem kb_NoneType_tuple : kitB "NoneType" "tuple" = some false := by decide +kernel
@[simp] theorem kb_NoneType_list : kitB "NoneType" "list" = some false := by decide +kernel
@[simp] theorem kb_NoneType_dict : kitB "NoneType" "dict" = some false := by decide +kernel
@[simp] theorem kb_NoneType_str : kitB "NoneType" "str" = some false := by decide +kernel
@[simp] theorem kb_bool_int : kitB "bool" "int" = some true := by decide +kernel
@[simp] theorem kb_bool_bool : kitB "bool" "bool" = some true := by decide +kernel
@[simp] theorem kb_bool_tuple : kitB "bool" "tuple" = some false := by decide +kernel
@[simp] theorem kb_bool_list : kitB "bool" "list" = some false := by decide +kernel
@[simp] theorem kb_bool_dict : kitB "bool" "dict" = some false := by decide +kernel
@[simp] theorem kb_bool_str : kitB "bool" "str" = some false := by decide +kernel
@[simp] theorem kb_int_int : kitB "int" "int" = some true := by decide +kernel
@[simp] theorem kb_int_bool : kitB "int" "bool" = some false := by decide +kernel
@[simp] theorem kb_int_tuple : kitB "int" "tuple" = some false := by decide +kernel
@[simp] theorem kb_int_list : kitB "int" "list" = some false := by decide +kernel
@[simp] theorem kb_int_dict : kitB "int" "dict" = some false := by decide +kernel
@[simp] theorem kb_int_str : kitB "int" "str" = some false := by decide +kernel
@[simp] theorem kb_str_int : kitB "str" "int" = some false := by decide +kernel
@[simp] theorem kb_str_bool : kitB "str" "bool" = some false := by decide +kernel
@[simp] theorem kb_str_tuple : kitB "str" "tuple" = some false := by decide +kernel
@[simp] theorem kb_str_list : kitB "str" "list" = some false := by decide +kernel
@[simp] theorem kb_str_dict : kitB "str" "dict" = some false := by decide +kernel
@[simp] theorem kb_str_str : kitB "str" "str" = some true := by decide +kernel
@[simp] theorem kb_tuple_int : kitB "tuple" "int" = some false := by decide +kernel
@[simp] theorem kb_tuple_bool : kitB "tuple" "bool" = some false := by decide +kernel
@[simp] theorem kb_tuple_tuple : kitB "tuple" "tuple" = some true := by decide +kernel
@[simp] theorem kb_tuple_list : kitB "tuple" "list" = some false := by decide +kernel
@[simp] theorem kb_tuple_dict : kitB "tuple" "dict" = some false := by decide +kernel
@[simp] theorem kb_tuple_str : kitB "tuple" "str" = some false := by decide +kernel
@[simp] theorem kb_list_int : kitB "list" "int" = some false := by decide +kernel
@[simp] theorem kb_list_bool : kitB "list" "bool" = some false := by decide +kernel
@[simp] theorem kb_list_tuple : kitB "list" "tuple" = some false := by decide +kernel
@[simp] theorem kb_list_list : kitB "list" "list" = some true := by decide +kernel
@[simp] theorem kb_list_dict : kitB "list" "dict" = some false := by decide +kernel
@[simp] theorem kb_list_str : kitB "list" "str" = some false := by decide +kernel
@[simp] theorem kb_dict_int : kitB "dict" "int" = some false := by decide +kernel
@[simp] theorem kb_dict_bool : kitB "dict" "bool" = some false := by decide +kernel
@[simp] theorem kb_dict_tuple : kitB "dict" "tuple" = some false := by decide +kernel
@[simp] theorem kb_dict_list : kitB "dict" "list" = some false := by decide +kernel
@[simp] theorem kb_dict_dict : kitB "dict" "dict" = some true := by decide +kernel
@[simp] theorem kb_dict_str : kitB "dict" "str" = some false := by decide +kernel
end DL
namespace DL
open PySem PySem.Spec L2
open PyProof.Rows hiding St
/-- an assertion between -/
theorem SW.mid {x : S} {Qn Qb Qc : Env → Sto → Prop} {Qr : D → Sto → Prop} (P : Env → Sto → Prop) (h : SW x P (fun _ _ => False) (fun _ _ => False) (fun _ _ => False)) (f : ∀ r s, P r s → Qn r s) : SW x Qn Qr Qb Qc :=
  SW.imp h f (fun _ _ z => z.elim) (fun _ _ z => z.elim) (fun _ _ z => z.elim)
theorem SW.midr {x : S} {Qn Qb Qc : Env → Sto → Prop} {Qr : D → Sto → Prop} (P : Env → Sto → Prop) (h : SW x P Qr (fun _ _ => False) (fun _ _ => False)) (f : ∀ r s, P r s → Qn r s) : SW x Qn Qr Qb Qc :=
  SW.imp h f (fun _ _ z => z) (fun _ _ z => z.elim) (fun _ _ z => z.elim)
theorem len_of {s : Sto} {n : Nat} {ob : Ob} (h : s[n]? = some ob) : n < s.length := (List.getElem?_eq_some_iff.mp h).1
theorem set_same {s : Sto} {n : Nat} {ob ob' : Ob} (h : s[n]? = some ob) : (s.set n ob')[n]? = some ob' := List.getElem?_set_self (len_of h)
theorem set_other {s : Sto} {n m : Nat} {ob : Ob} (h : n ≠ m) : (s.set n ob)[m]? = s[m]? := List.getElem?_set_ne h
end DL
namespace DL
open PySem PySem.Spec L2
open PyProof.Rows hiding St
@[simp high] theorem RW_gCons2 {g : MG} {gs : List D → Env → Sto → R Env} {d : D} {ds : List D} {r : Env} {s : Sto} {Q : Env → Sto → Prop} : RW (mgCons g gs (d :: ds) r s) Q ↔ RW (g d r s) fun r1 s1 => RW (gs ds r1 s1) Q := by simp [mgCons]
@[simp high] theorem RW_gTup2 {k : Nat} {gs : List D → Env → Sto → R Env} {ds : List D} {r : Env} {s : Sto} {Q : Env → Sto → Prop} : RW (mgTup k gs (.tup ds) r s) Q ↔ ds.length = k ∧ RW (gs ds r s) Q := by
  simp only [mgTup]
  split <;> simp_all
end DL
namespace DL
@[simp] theorem ex2a {α β : Sort _} {x : α} {y : β} {P : α → β → Prop} : (∃ a b, (x = a ∧ b = y) ∧ P a b) ↔ P x y := ⟨fun ⟨_, _, ⟨e1, e2⟩, h⟩ => by subst e1 e2; exact h, fun h => ⟨x, y, ⟨rfl, rfl⟩, h⟩⟩
@[simp] theorem ex2b {α β : Sort _} {x : α} {y : β} {P : α → β → Prop} : (∃ a b, (x = a ∧ y = b) ∧ P a b) ↔ P x y := ⟨fun ⟨_, _, ⟨e1, e2⟩, h⟩ => by subst e1 e2; exact h, fun h => ⟨x, y, ⟨rfl, rfl⟩, h⟩⟩
end DL
end
/-! ### P3 -/
section
set_option linter.all false
set_option maxRecDepth 100000
/-! P3: comprehensions that change nothing; rows of whole numbers. -/
namespace DL
open PySem PySem.Spec L2
open PyProof.Rows hiding St
theorem RW.eq {α : Type} {r : R α} {s : Sto} {v : α} (h : RW r fun y s' => s' = s ∧ y = v) : r = .ok v s := by
  obtain ⟨a, s', e, rfl, rfl⟩ := h.get
  exact e
section
variable {gs : List (Nat × Ob)} {tg : MG} {tt : MT} {te tk tv : ME} {r : Env} {ds : List D} {s : Sto} {Q : List D → Sto → Prop}
theorem lc_rw {f : D → D} {b : D → Bool} (hg : guard gs s = true) (hl : ds.length ≤ sizeLine)
    (h : ∀ d ∈ ds, RW (tg d r s) fun r1 s1 => s1 = s ∧ RW (tt r1 s) fun k s2 => s2 = s ∧ k = b d ∧ (b d = true → RW (te r1 s) fun y s3 => s3 = s ∧ y = f d)) (q : Q ((ds.filter b).map f) s) : RW (mLcGo gs tg tt te r ds s []) Q := by
  refine RW.of (lc_pure (f := f) (b := b) hg hl fun d hd => ?_) q
  obtain ⟨r1, s1, e1, rfl, h2⟩ := (h d hd).get
  obtain ⟨k, s2, e2, rfl, rfl, h3⟩ := h2.get
  exact ⟨r1, e1, e2, fun hb => (h3 hb).eq⟩
/-- over whole numbers -/
theorem lc_ints {xs : List Int} {f : Int → D} {b : Int → Bool} (hg : guard gs s = true) (hl : xs.length ≤ sizeLine)
    (h : ∀ x ∈ xs, RW (tg (.int x) r s) fun r1 s1 => s1 = s ∧ RW (tt r1 s) fun k s2 => s2 = s ∧ k = b x ∧ (b x = true → RW (te r1 s) fun y s3 => s3 = s ∧ y = f x)) (q : Q ((xs.filter b).map f) s) : RW (mLcGo gs tg tt te r (xs.map .int) s []) Q := by
  have e : ((xs.map D.int).filter (fun d => match d with | .int x => b x | _ => false)).map (fun d => match d with | .int x => f x | d => d) = (xs.filter b).map f := by
    rw [List.filter_map, List.map_map]
    rfl
  refine lc_rw (f := fun d => match d with | .int x => f x | d => d) (b := fun d => match d with | .int x => b x | _ => false) hg (by simpa using hl) (fun d hd => ?_) (by rw [e]; exact q)
  obtain ⟨x, hx, rfl⟩ := List.mem_map.mp hd
  exact h x hx
/-- over two rows -/
theorem lc_zip {xs ys : List Int} {F : Int → Int → Int} (hg : guard gs s = true) (hl : xs.length ≤ sizeLine)
    (h : ∀ a ∈ xs, ∀ b ∈ ys, RW (tg (.tup [.int a, .int b]) r s) fun r1 s1 => s1 = s ∧ RW (te r1 s) fun y s3 => s3 = s ∧ y = .int (F a b)) (q : Q ((List.zipWith F xs ys).map .int) s) :
    RW (mLcGo gs tg mYes te r (List.zipWith (fun x y => .tup [x, y]) (xs.map .int) (ys.map .int)) s []) Q := by
  have hz : List.zipWith (fun x y => D.tup [x, y]) (xs.map .int) (ys.map .int) = List.zipWith (fun a b => D.tup [.int a, .int b]) xs ys := by
    rw [List.zipWith_map]
  rw [hz]
  have key : ∀ (as bs : List Int), (∀ a ∈ as, a ∈ xs) → (∀ b ∈ bs, b ∈ ys) → ∀ d ∈ List.zipWith (fun a b => D.tup [.int a, .int b]) as bs, ∃ a b, a ∈ xs ∧ b ∈ ys ∧ d = .tup [.int a, .int b] := by
    intro as
    induction as with
    | nil => intro bs _ _ d hd; simp at hd
    | cons a as ih =>
      intro bs h1 h2 d hd
      cases bs with
      | nil => simp at hd
      | cons b bs =>
        simp only [List.zipWith_cons_cons, List.mem_cons] at hd
        rcases hd with rfl | hd
        · exact ⟨a, b, h1 a List.mem_cons_self, h2 b List.mem_cons_self, rfl⟩
        · exact ih bs (fun a ha => h1 a (List.mem_cons_of_mem _ ha)) (fun b hb => h2 b (List.mem_cons_of_mem _ hb)) d hd
  refine lc_rw (f := fun d => match d with | .tup [.int a, .int b] => .int (F a b) | d => d) (b := fun _ => true) hg (by rw [List.length_zipWith]; omega) (fun d hd => ?_) ?_
  · obtain ⟨a, b, ha, hb, rfl⟩ := key xs ys (fun _ h => h) (fun _ h => h) d hd
    refine (h a ha b hb).imp fun r1 s1 ⟨e, h2⟩ => ⟨e, ?_⟩
    exact ⟨rfl, rfl, fun _ => h2⟩
  · rw [List.filter_eq_self.mpr (fun _ _ => rfl), List.map_zipWith]
    rw [List.map_zipWith] at q
    exact q
/-- over numbered whole numbers -/
theorem numbered_ints : ∀ (xs : List Int) (k : Nat), numbered k (xs.map .int) = (xs.zipIdx k).map fun q => D.tup [.int (q.2 : Int), .int q.1]
  | [], _ => rfl
  | x :: xs, k => by simp [numbered, numbered_ints xs (k + 1)]
theorem lc_enum {xs : List Int} {f : Int → Nat → D} {b : Int → Nat → Bool} (hg : guard gs s = true) (hl : xs.length ≤ sizeLine)
    (h : ∀ x (i : Nat), xs[i]? = some x → RW (tg (.tup [.int (i : Int), .int x]) r s) fun r1 s1 => s1 = s ∧ RW (tt r1 s) fun k s2 => s2 = s ∧ k = b x i ∧ (b x i = true → RW (te r1 s) fun y s3 => s3 = s ∧ y = f x i)) (q : Q ((xs.zipIdx.filter fun q => b q.1 q.2).map fun q => f q.1 q.2) s) :
    RW (mLcGo gs tg tt te r (numbered 0 (xs.map .int)) s []) Q := by
  rw [numbered_ints]
  have e : ((xs.zipIdx.map fun q => D.tup [.int (q.2 : Int), .int q.1]).filter (fun d => match d with | .tup [.int i, .int x] => b x i.toNat | _ => false)).map (fun d => match d with | .tup [.int i, .int x] => f x i.toNat | d => d) = (xs.zipIdx.filter fun q => b q.1 q.2).map fun q => f q.1 q.2 := by
    rw [List.filter_map, List.map_map]
    rfl
  refine lc_rw (f := fun d => match d with | .tup [.int i, .int x] => f x i.toNat | d => d) (b := fun d => match d with | .tup [.int i, .int x] => b x i.toNat | _ => false) hg (by simpa using hl) (fun d hd => ?_) (by rw [e]; exact q)
  obtain ⟨⟨x, i⟩, hx, rfl⟩ := List.mem_map.mp hd
  have hi := List.mem_zipIdx_iff_getElem?.mp hx
  exact h x i hi
/-- over a range -/
theorem lc_range {n : Nat} {lo : Int} {f : Nat → D} {b : Nat → Bool} (hg : guard gs s = true) (hl : n ≤ sizeLine)
    (h : ∀ i, i < n → RW (tg (.int (lo + (i : Int))) r s) fun r1 s1 => s1 = s ∧ RW (tt r1 s) fun k s2 => s2 = s ∧ k = b i ∧ (b i = true → RW (te r1 s) fun y s3 => s3 = s ∧ y = f i)) (q : Q (((List.range n).filter b).map f) s) :
    RW (mLcGo gs tg tt te r ((List.range n).map fun (i : Nat) => D.int (lo + i)) s []) Q := by
  have e : (((List.range n).map fun (i : Nat) => D.int (lo + i)).filter (fun d => match d with | .int x => b (x - lo).toNat | _ => false)).map (fun d => match d with | .int x => f (x - lo).toNat | d => d) = ((List.range n).filter b).map f := by
    rw [List.filter_map, List.map_map]
    have e1 : ∀ i : Nat, (lo + (i : Int) - lo).toNat = i := fun i => by omega
    have e2 : ((fun d => match d with | D.int x => b (x - lo).toNat | _ => false) ∘ fun (i : Nat) => D.int (lo + i)) = b := by
      funext i; simp only [Function.comp, e1]
    have e3 : ((fun d => match d with | D.int x => f (x - lo).toNat | d => d) ∘ fun (i : Nat) => D.int (lo + i)) = f := by
      funext i; simp only [Function.comp, e1]
    rw [e2, e3]
  refine lc_rw (f := fun d => match d with | .int x => f (x - lo).toNat | d => d) (b := fun d => match d with | .int x => b (x - lo).toNat | _ => false) hg (by simpa using hl) (fun d hd => ?_) (by rw [e]; exact q)
  obtain ⟨i, hi, rfl⟩ := List.mem_map.mp hd
  have e1 : (lo + (i : Int) - lo).toNat = i := by omega
  simp only [e1]
  exact h i (by simpa using hi)
end
/-! ### sequences -/
/-- d is a tuple, or a list of the store -/
def SeqAt (s : Sto) (d : D) (xs : List D) : Prop := d = .tup xs ∨ ∃ n, d = .loc n ∧ s[n]? = some (.lst xs)
theorem SeqAt.tup {s : Sto} {xs : List D} : SeqAt s (.tup xs) xs := .inl rfl
theorem SeqAt.loc {s : Sto} {n : Nat} {xs : List D} (h : s[n]? = some (.lst xs)) : SeqAt s (.loc n) xs := .inr ⟨n, rfl, h⟩
theorem SeqAt.src {s : Sto} {d : D} {xs : List D} (h : SeqAt s d xs) : ∃ gs, srcD s d = some (xs, gs) ∧ guard gs s = true := by
  rcases h with rfl | ⟨n, rfl, h⟩
  · exact ⟨[], rfl, by simp⟩
  · exact ⟨[(n, .lst xs)], by simp [srcD, h], by simpa using h⟩
theorem SeqAt.len {s : Sto} {d : D} {xs : List D} (h : SeqAt s d xs) : gLen [d] s = some (.int xs.length, s) := by
  rcases h with rfl | ⟨n, rfl, h⟩
  · rfl
  · exact gLen_lst h
theorem SeqAt.ix {s : Sto} {d : D} {xs : List D} (h : SeqAt s d xs) (j : Int) : gIx d (.int j) s = (atI xs j).map fun z => (z, s) := by
  rcases h with rfl | ⟨n, rfl, h⟩
  · rfl
  · exact gIx_lst h
theorem SeqAt.itS {s : Sto} {d : D} {xs : List D} (h : SeqAt s d xs) : itS s d = some xs := by
  rcases h with rfl | ⟨n, rfl, h⟩
  · rfl
  · simp [DL.itS, itL, h]
/-- all but the hand stays; more may come -/
def Ext (s s' : Sto) : Prop := s.length ≤ s'.length ∧ ∀ k, k ≠ 2 → k < s.length → s'[k]? = s[k]?
theorem Ext.refl {s : Sto} : Ext s s := ⟨Nat.le_refl _, fun _ _ _ => rfl⟩
theorem Ext.trans {s s1 s2 : Sto} (a : Ext s s1) (b : Ext s1 s2) : Ext s s2 := ⟨Nat.le_trans a.1 b.1, fun k h hk => (b.2 k h (Nat.lt_of_lt_of_le hk a.1)).trans (a.2 k h hk)⟩
theorem Ext.push {s s1 : Sto} (a : Ext s s1) {q : Sto} : Ext s (s1 ++ q) := ⟨by simp; have := a.1; omega, fun k h hk => by rw [List.getElem?_append_left (Nat.lt_of_lt_of_le hk a.1)]; exact a.2 k h hk⟩
theorem Ext.set {s s1 : Sto} (a : Ext s s1) {n : Nat} {ob : Ob} (hn : s.length ≤ n) : Ext s (s1.set n ob) := ⟨by simp; exact a.1, fun k h hk => by rw [List.getElem?_set_ne (by omega)]; exact a.2 k h hk⟩
theorem Ext.get {s s1 : Sto} (a : Ext s s1) {n : Nat} {ob : Ob} (h : s[n]? = some ob) (hn : n ≠ 2) : s1[n]? = some ob := by rw [a.2 n hn (len_of h)]; exact h
/-- a sequence that is not the hand stays -/
def SeqO (s : Sto) (d : D) (xs : List D) : Prop := d = .tup xs ∨ ∃ n, n ≠ 2 ∧ d = .loc n ∧ s[n]? = some (.lst xs)
theorem SeqO.at {s : Sto} {d : D} {xs : List D} (h : SeqO s d xs) : SeqAt s d xs := by
  rcases h with rfl | ⟨n, _, rfl, h⟩
  · exact .tup
  · exact .loc h
theorem SeqO.ext {s s1 : Sto} {d : D} {xs : List D} (h : SeqO s d xs) (e : Ext s s1) : SeqO s1 d xs := by
  rcases h with rfl | ⟨n, hn, rfl, h⟩
  · exact .inl rfl
  · exact .inr ⟨n, hn, rfl, e.get h hn⟩
theorem last_of {s : Sto} {ob : Ob} : (s ++ [ob])[s.length]? = some ob := by simp
theorem any_bls {bs : List Bool} : gAny (bs.map .bl) = some (.bl (bs.any id)) := by simp [gAny]
theorem all_bls {bs : List Bool} : gAll (bs.map .bl) = some (.bl (bs.all id)) := by simp [gAll]
end DL
namespace DL
open PySem PySem.Spec L2
open PyProof.Rows hiding St
theorem src_lst {s : Sto} {n : Nat} {xs : List D} (h : s[n]? = some (.lst xs)) : srcD s (.loc n) = some (xs, [(n, .lst xs)]) := by simp [srcD, h]
@[simp] theorem src_tup {s : Sto} {xs : List D} : srcD s (.tup xs) = some (xs, []) := rfl
theorem gS_of {s : Sto} {d : D} {xs : List D} {g : List D → Option D} (h : SeqAt s d xs) : gS g [d] s = (g xs).map fun z => (z, s) := by simp [gS, h.itS]
theorem one_le_size : 1 ≤ sizeLine := small24 (by decide)
end DL
namespace DL
open PySem PySem.Spec L2
open PyProof.Rows hiding St
/-- as simp leaves it -/
theorem lc_zip2 {gs : List (Nat × Ob)} {tg : MG} {te : ME} {r : Env} {s : Sto} {Q : List D → Sto → Prop} {xs ys : List Int} {F : Int → Int → Int} (hg : guard gs s = true) (hl : xs.length ≤ sizeLine)
    (h : ∀ a ∈ xs, ∀ b ∈ ys, RW (tg (.tup [.int a, .int b]) r s) fun r1 s1 => s1 = s ∧ RW (te r1 s) fun y s3 => s3 = s ∧ y = .int (F a b)) (q : Q ((List.zipWith F xs ys).map .int) s) :
    RW (mLcGo gs tg mYes te r (List.zipWith (fun a b => D.tup [.int a, .int b]) xs ys) s []) Q := by
  have := lc_zip (Q := Q) hg hl h q
  rw [List.zipWith_map] at this
  exact this
end DL
namespace DL
open PySem PySem.Spec L2
open PyProof.Rows hiding St
section
variable {s : Sto} {xs : List D} {j : Int} {d : D} {kvs : List (Key × D)}
@[simp] theorem gLen_last : gLen [.loc s.length] (s ++ [.lst xs]) = some (.int xs.length, s ++ [.lst xs]) := gLen_lst last_of
@[simp] theorem gIx_last : gIx (.loc s.length) (.int j) (s ++ [.lst xs]) = (atI xs j).map fun z => (z, s ++ [.lst xs]) := gIx_lst last_of
@[simp] theorem src_last : srcD (s ++ [.lst xs]) (.loc s.length) = some (xs, [(s.length, .lst xs)]) := src_lst last_of
@[simp] theorem kvs_last : kvsOf (s ++ [.dct kvs]) s.length = some kvs := by simp [kvsOf]
end
end DL
namespace DL
open PySem PySem.Spec L2
open PyProof.Rows hiding St
theorem lc_range0 {gs : List (Nat × Ob)} {tg : MG} {tt : MT} {te : ME} {r : Env} {s : Sto} {Q : List D → Sto → Prop} {n : Nat} {f : Nat → D} {b : Nat → Bool} (hg : guard gs s = true) (hl : n ≤ sizeLine)
    (h : ∀ i, i < n → RW (tg (.int (i : Int)) r s) fun r1 s1 => s1 = s ∧ RW (tt r1 s) fun k s2 => s2 = s ∧ k = b i ∧ (b i = true → RW (te r1 s) fun y s3 => s3 = s ∧ y = f i)) (q : Q (((List.range n).filter b).map f) s) :
    RW (mLcGo gs tg tt te r ((List.range n).map fun (i : Nat) => D.int (i : Int)) s []) Q := by
  have e : ((List.range n).map fun (i : Nat) => D.int (i : Int)) = (List.range n).map fun (i : Nat) => D.int (0 + (i : Int)) := by
    apply List.map_congr_left
    intro i _
    rw [Int.zero_add]
  rw [e]
  exact lc_range hg hl (fun i hi => by rw [Int.zero_add]; exact h i hi) q
end DL
end
/-! ### P2 -/
section
set_option linter.all false
set_option maxRecDepth 100000
/-! P2: the hand. -/
namespace DL
open PySem PySem.Spec L2
open PyProof.Rows hiding St
abbrev handD (i x y c : Int) : List D := [.loc 1, .int i, .int x, .int y, .int c]
/-- the hand stands at 2, its cells at 1 -/
def HS (s : Sto) : Prop := ∃ (cells : List Int) (i x y c : Int), s[1]? = some (.lst (cells.map .int)) ∧ s[2]? = some (.lst (handD i x y c)) ∧ 0 ≤ i
/-- only the hand has changed -/
def Fr (s s' : Sto) : Prop := s'.length = s.length ∧ ∀ k, k ≠ 2 → s'[k]? = s[k]?
theorem Fr.refl {s : Sto} : Fr s s := ⟨rfl, fun _ _ => rfl⟩
theorem Fr.trans {s s1 s2 : Sto} (a : Fr s s1) (b : Fr s1 s2) : Fr s s2 := ⟨b.1.trans a.1, fun k h => (b.2 k h).trans (a.2 k h)⟩
theorem Fr.set {s : Sto} {ob : Ob} : Fr s (s.set 2 ob) := ⟨by simp, fun k h => by rw [List.getElem?_set_ne (Ne.symm h)]⟩
theorem ix5_1 : ixN 5 1 = some 1 := rfl
theorem ix5_2 : ixN 5 2 = some 2 := rfl
theorem ix5_3 : ixN 5 3 = some 3 := rfl
theorem ix5_4 : ixN 5 4 = some 4 := rfl
/-- the hand with other numbers -/
theorem put_hand {s : Sto} {i x y c : Int} {k : Int} {n : Nat} {v : D} (h2 : s[2]? = some (.lst (handD i x y c))) (hk : ixN 5 k = some n) : gSet (.loc 2) (.int k) v s = some (s.set 2 (.lst ((handD i x y c).set n v))) := gSet_lst h2 hk
/-- the cells c, the numbers in the hand -/
def HC (cells : List Int) (s0 s : Sto) (i x y c : Int) : Prop := s[1]? = some (.lst (cells.map .int)) ∧ s[2]? = some (.lst (handD i x y c)) ∧ Fr s0 s
theorem HC.put {cells : List Int} {s0 s : Sto} {i x y c i' x' y' c' : Int} (h : HC cells s0 s i x y c) {k : Int} {n : Nat} {v : D} (hk : ixN 5 k = some n) (e : (handD i x y c).set n v = handD i' x' y' c') :
    ∃ s1, gSet (.loc 2) (.int k) v s = some s1 ∧ HC cells s0 s1 i' x' y' c' :=
  ⟨_, put_hand h.2.1 hk, by rw [set_other (by decide)]; exact h.1, by rw [e]; exact set_same h.2.1, h.2.2.trans Fr.set⟩
def HP (cells : List Int) (s0 s : Sto) : Prop := ∃ i x y c, HC cells s0 s i x y c ∧ 0 ≤ i
theorem draw_spec (A : Str → Addr) {many : Int} {s : Sto} (hm : 0 < many ∧ many < 1073741824) (h : HS s) : RW (l_law_draw A [.loc 2, .int many] s) fun d s' => ∃ r, d = .int r ∧ 0 ≤ r ∧ r < many ∧ HS s' ∧ Fr s s' := by
  obtain ⟨cells, i, x, y, c, h1, h2, hi⟩ := h
  unfold l_law_draw
  rw [RW_def]
  refine ⟨rfl, ?_⟩
  rw [SW_seq]
  refine SW.mid (fun r1 s1 => ∃ v, r1 = [some (.loc 2), some (.int many), v, none, none] ∧ HP cells s s1) ?_ ?_
  · have base : HC cells s s i x y c := ⟨h1, h2, Fr.refl⟩
    rw [SW_if]
    by_cases hx : x = 0
    · by_cases hl : i < cells.length
      · have hcell : (cells.map D.int)[i.toNat]? = some (.int cells[i.toNat]) := by
          rw [List.getElem?_map, List.getElem?_eq_getElem (by omega)]; rfl
        simp [gIx_lst h2, gIx_lst h1, gLen_lst h1, hx, hl, atI_in hi hcell]
        obtain ⟨s1, e1, b1⟩ := base.put (v := .int (i + 1)) (i' := i + 1) (x' := x) (y' := y) (c' := c) ix5_1 rfl
        refine ⟨s1, e1, ?_⟩
        obtain ⟨s2, e2, b2⟩ := b1.put (v := .int ((y * 69621 + cells[i.toNat] + 11) % 2147483629)) (i' := i + 1) (x' := x) (y' := (y * 69621 + cells[i.toNat] + 11) % 2147483629) (c' := c) ix5_3 rfl
        simp [gIx_lst b1.2.1]
        refine ⟨s2, e2, ?_⟩
        by_cases hb : 1000000000000000000 ≤ cells[i.toNat]
        · right
          refine ⟨hb, ?_⟩
          obtain ⟨s3, e3, b3⟩ := b2.put (v := .int cells[i.toNat]) (i' := i + 1) (x' := cells[i.toNat]) (y' := (y * 69621 + cells[i.toNat] + 11) % 2147483629) (c' := c) ix5_2 rfl
          exact ⟨s3, e3, _, _, _, _, b3, by omega⟩
        · left
          exact ⟨by omega, _, _, _, _, b2, by omega⟩
      · simp [gIx_lst h2, gIx_lst h1, gLen_lst h1, hx, hl]
        exact ⟨_, _, _, _, base, hi⟩
    · simp [gIx_lst h2, gIx_lst h1, gLen_lst h1, hx]
      exact ⟨_, _, _, _, base, hi⟩
  · rintro r1 s1 ⟨v, rfl, i, x, y, c, b, hi⟩
    rw [SW_seq]
    have hs : ∀ {s' : Sto} {i x y c : Int}, HC cells s s' i x y c → 0 ≤ i → HS s' ∧ Fr s s' := fun b hi => ⟨⟨cells, _, _, _, _, b.1, b.2.1, hi⟩, b.2.2⟩
    by_cases hx : 0 < x
    · simp [gIx_lst b.2.1, hx, hm]
      obtain ⟨s2, e2, b2⟩ := b.put (v := .int (x / many)) (i' := i) (x' := x / many) (y' := y) (c' := c) ix5_2 rfl
      exact ⟨s2, e2, Int.emod_nonneg _ (by omega), Int.emod_lt_of_pos _ hm.1, hs b2 hi⟩
    · simp [gIx_lst b.2.1, hx, hm]
      obtain ⟨s2, e2, b2⟩ := b.put (v := .int (c + 1)) (i' := i) (x' := x) (y' := y) (c' := c + 1) ix5_4 rfl
      refine ⟨s2, e2, ?_⟩
      simp [gIx_lst b2.2.1]
      generalize hn : (y + 7919 * (c + 1)) * 48271 % 2147483647 = n1
      have n1b : -(2 ^ 64) < n1 ∧ n1 < 2 ^ 64 := by omega
      rw [gMul_l (by simpa using n1b)]
      simp
      generalize hn2 : n1 * (n1 / 1009 + 69621) % 2147483647 = n2
      have n2b : -(2 ^ 64) < n2 ∧ n2 < 2 ^ 64 := by omega
      rw [gMul_l (by simpa using n2b)]
      simp [hm]
      exact ⟨Int.emod_nonneg _ (by omega), Int.emod_lt_of_pos _ hm.1, hs b2 hi⟩

theorem Fr.ext {s s1 : Sto} (h : Fr s s1) : Ext s s1 := ⟨by rw [h.1]; exact Nat.le_refl _, fun k hk _ => h.2 k hk⟩
theorem HS.push {s q : Sto} (h : HS s) : HS (s ++ q) := by
  obtain ⟨cells, i, x, y, c, h1, h2, hi⟩ := h
  exact ⟨cells, i, x, y, c, by rw [List.getElem?_append_left (len_of h1)]; exact h1, by rw [List.getElem?_append_left (len_of h2)]; exact h2, hi⟩
theorem HS.set {s : Sto} {n : Nat} {ob : Ob} (h : HS s) (hn : 3 ≤ n) : HS (s.set n ob) := by
  obtain ⟨cells, i, x, y, c, h1, h2, hi⟩ := h
  exact ⟨cells, i, x, y, c, by rw [List.getElem?_set_ne (by omega)]; exact h1, by rw [List.getElem?_set_ne (by omega)]; exact h2, hi⟩
theorem HS.len {s : Sto} (h : HS s) : 3 ≤ s.length := by
  obtain ⟨cells, i, x, y, c, h1, h2, hi⟩ := h
  exact len_of h2
theorem any_spec (A : Str → Addr) {s : Sto} {d : D} {xs : List D} (h : HS s) (hd : SeqO s d xs) (h0 : xs ≠ []) (hl : xs.length < 1073741824) : RW (l_law_any A [.loc 2, d] s) fun v s' => v ∈ xs ∧ HS s' ∧ Fr s s' := by
  unfold l_law_any
  have hpos : 0 < xs.length := List.length_pos_iff.mpr h0
  simp [hd.at.len]
  refine (draw_spec A (by omega) h).imp fun v s' ⟨r, e, h1, h2, h3, h4⟩ => ?_
  subst e
  rw [(hd.ext h4.ext).at.ix]
  have hk : r.toNat < xs.length := by omega
  rw [atI_in h1 (List.getElem?_eq_getElem hk)]
  exact ⟨List.getElem_mem hk, h3, h4⟩
theorem hand_spec (A : Str → Addr) {ns : List Int} {v : V} (h : ns.length ≤ 63) : RW (l_law_hand A ns [.con v] []) fun d s' => d = .loc 2 ∧ HS s' ∧ s'.length = 3 := by
  unfold l_law_hand
  simp [mI_scr]
  refine lc_ints (f := fun x => .int (if x < 0 then -x else x)) (b := fun _ => true) (by simp) (small24 (by omega)) (fun x hx => ?_) ?_
  · simp [wipeD]
  · simp
    refine ⟨small24 (by decide), ns.map (fun x => if x < 0 then -x else x), 0, 0, _, 0, ?_, rfl, Int.le_refl _⟩
    have e : List.filter (fun _ => true) ns = ns := List.filter_eq_self.mpr fun _ _ => rfl
    simp [e, Function.comp_def]
end DL
end
/-! ### P4 -/
section
set_option linter.all false
set_option maxRecDepth 100000
/-! P4: drawn sums. -/
namespace DL
open PySem PySem.Spec L2
open PyProof.Rows hiding St
abbrev rowD (ns : List Int) : D := .tup (ns.map .int)
abbrev sumsD (S : List (List Int)) : D := .tup (S.map rowD)
structure IsRow (p : Int) (w : Nat) (ns : List Int) : Prop where
  len : ns.length = w
  bd : ∀ x ∈ ns, 0 ≤ x ∧ x < p
def IsSm (p : Int) (w : Nat) (ns : List Int) : Prop := IsRow p w ns ∧ ∃ x ∈ ns, x ≠ 0
theorem gMul_lst {s : Sto} {n : Nat} {a : D} {k : Int} (h : s[n]? = some (.lst [a])) (hk : -(2 ^ 63) ≤ k ∧ k < 1000000) : gMul (.loc n) (.int k) s = some (.loc s.length, s ++ [.lst (List.replicate k.toNat a)]) := by
  have hb : -(2 ^ 63) ≤ k ∧ k < 2 ^ 63 ∧ [a].length * k.toNat ≤ sizeLine := ⟨hk.1, by omega, by rw [sizeLine_eq]; simp; omega⟩
  simp only [gMul, h]
  rw [if_pos hb]
  have : (List.replicate k.toNat [a]).flatten = List.replicate k.toNat a := by
    generalize k.toNat = m
    induction m with
    | zero => rfl
    | succ m ih => simp [List.replicate_succ, ih]
  rw [this]
theorem gMul_tup {s : Sto} {a : D} {k : Int} (hk : 2 ≤ k ∧ k ≤ 1000) : gMul (.tup [a]) (.int k) s = some (.tup (List.replicate k.toNat a), s) := by
  have hb : [a] ≠ [] ∧ 2 ≤ k ∧ k ≤ 1000 ∧ [a].length ≤ 1000 := ⟨by simp, hk.1, hk.2, by simp⟩
  simp only [gMul]
  rw [if_pos hb]
  have : (List.replicate k.toNat [a]).flatten = List.replicate k.toNat a := by
    generalize k.toNat = m
    induction m with
    | zero => rfl
    | succ m ih => simp [List.replicate_succ, ih]
  rw [this]
/-- any([x != 0 for x in row]) -/
theorem any_ne {s : Sto} {gs : List (Nat × Ob)} {r : Env} {xs : List Int} {k : Nat} {Q : List D → Sto → Prop} (hg : guard gs s = true) (hk : k < r.length) (hl : xs.length ≤ 1000000) (q : Q ((xs.map fun x => !decide (x = 0)).map .bl) s) :
    RW (mLcGo gs (mgName k) mYes (mBin gNe (mVar k) (mC (.int 0))) r (xs.map .int) s []) Q := by
  refine lc_ints (f := fun x => .bl (!decide (x = 0))) (b := fun _ => true) hg (small24 hl) (fun x hx => ?_) ?_
  · simp [hk]
  · rw [List.filter_eq_self.mpr fun _ _ => rfl]
    simpa [Function.comp_def] using q
theorem IsRow.any {p : Int} {w : Nat} {ns : List Int} (h : IsRow p w ns) : (ns.map fun x => !decide (x = 0)).any id = true → IsSm p w ns := fun e => by
  simp at e
  obtain ⟨x, hx, e⟩ := e
  exact ⟨h, x, hx, e⟩
theorem sum_spec (A : Str → Addr) {p : Int} {w : Nat} {s : Sto} (hp : 2 ≤ p ∧ p < 1000) (hw : 1 ≤ w ∧ w < 1000) (h : HS s) :
    RW (l_law_sum A [.loc 2, .int p, .int w] s) fun d s' => (∃ ns, d = rowD ns ∧ IsSm p w ns) ∧ HS s' ∧ Ext s s' := by
  unfold l_law_sum
  rw [RW_def]
  refine ⟨rfl, ?_⟩
  rw [SW_seq]
  simp
  refine (draw_spec A (by omega) h).imp fun v s1 ⟨kind, e, hk1, hk2, h1, f1⟩ => ?_
  subst e
  have x1 := f1.ext
  refine ⟨by omega, ?_⟩
  refine RW_lcGo (fun i s2 acc => HS s2 ∧ Ext s s2 ∧ ∃ ns, acc = ns.map .int ∧ IsRow p i ns ∧ i ≤ w) ?_ ?_ ?_ ?_
  · exact ⟨h1, x1, [], rfl, ⟨rfl, by simp⟩, by omega⟩
  · intros; simp
  · rintro i d s2 acc hd ⟨h2, x2, ns, e, hr, hi⟩
    have hi2 : i < w := by
      have := (List.getElem?_eq_some_iff.mp hd).1
      simpa using this
    have fin : ∀ (s3 : Sto) (z : Int), HS s3 → Ext s s3 → 0 ≤ z → z < p → acc.length < sizeLine ∧ HS s3 ∧ Ext s s3 ∧ ∃ ms, acc ++ [D.int z] = ms.map .int ∧ IsRow p (i + 1) ms ∧ i + 1 ≤ w := by
      intro s3 z h3 x3 hz1 hz2
      refine ⟨by rw [e, List.length_map, hr.len]; exact small24' (by omega), h3, x3, ns ++ [z], by simp [e], ⟨by simp [hr.len], fun x hx => ?_⟩, hi2⟩
      rcases List.mem_append.mp hx with hx | hx
      · exact hr.bd x hx
      · simp at hx; subst hx; exact ⟨hz1, hz2⟩
    simp [wipeD]
    by_cases hk : kind < 2
    · right
      refine ⟨hk, ?_⟩
      refine (draw_spec (many := p) A (by omega) h2).imp fun v s3 ⟨z, e, hz1, hz2, h3, f3⟩ => ?_
      subst e
      exact fin s3 z h3 (x2.trans f3.ext) hz1 hz2
    · left
      refine ⟨by omega, ?_⟩
      refine (draw_spec (many := 3) A (by omega) h2).imp fun v s3 ⟨z, e, hz1, hz2, h3, f3⟩ => ?_
      subst e
      simp
      by_cases hz : z = 0
      · right
        refine ⟨hz, ?_⟩
        refine (draw_spec (many := p) A (by omega) h3).imp fun v s4 ⟨y, e, hy1, hy2, h4, f4⟩ => ?_
        subst e
        exact fin s4 y h4 ((x2.trans f3.ext).trans f4.ext) hy1 hy2
      · left
        exact ⟨hz, fin s3 0 h3 (x2.trans f3.ext) (by omega) (by omega)⟩
  · rintro s2 acc ⟨h2, x2, ns, e, hr, hi⟩
    simp only [List.length_map, List.length_range] at hr
    subst e
    have hw2 : ns.length = w := hr.len
    have htup : ∀ (s4 : Sto) (n : Nat) (ms : List Int), s4[n]? = some (.lst (ms.map .int)) → IsSm p w ms → HS s4 → Ext s s4 → RW (R.of (gS (fun ds => some (D.tup ds)) [.loc n] s4)) fun d s' => (∃ ns, d = rowD ns ∧ IsSm p w ns) ∧ HS s' ∧ Ext s s' := by
      intro s4 n ms e4 hm h4 x4
      rw [gS_of (.loc e4)]
      exact ⟨⟨ms, rfl, hm⟩, h4, x4⟩
    have repl : ∀ s1, HS s1 → Ext s s1 → RW (R.of (gMul (D.loc (List.length s1)) (D.int ↑w) (s1 ++ [Ob.lst [D.int 0]]))) fun d s1 =>
                          RW (l_law_draw A [D.loc 2, D.int (p - 1)] s1) fun e s2 =>
                            RW (R.of (gAdd (D.int 1) e s2)) fun v s1 =>
                              RW (l_law_draw A [D.loc 2, D.int ↑w] s1) fun i s3 =>
                                ∃ s4,
                                  gSet d i v s3 = some s4 ∧
                                    RW (R.of (gS (fun ds => some (D.tup ds)) [d] s4)) fun d s' =>
                                      (∃ ns, d = rowD ns ∧ IsSm p w ns) ∧ HS s' ∧ Ext s s' := by
      intro s1 h1 x1
      rw [gMul_lst last_of ⟨by omega, by omega⟩]
      simp
      have h3 : HS (s1 ++ ([Ob.lst [D.int 0]] ++ [Ob.lst (List.replicate w (D.int 0))])) := h1.push
      have x3 : Ext s (s1 ++ ([Ob.lst [D.int 0]] ++ [Ob.lst (List.replicate w (D.int 0))])) := x1.push
      have e3 : (s1 ++ ([Ob.lst [D.int 0]] ++ [Ob.lst (List.replicate w (D.int 0))]))[s1.length + 1]? = some (.lst (List.replicate w (D.int 0))) := by
        rw [List.getElem?_append_right (by omega)]
        simp
      simp only [List.cons_append, List.nil_append] at h3 x3 e3
      have hl3 := h1.len
      have hx1 := x1.1
      refine (draw_spec (many := p - 1) A (by omega) h3).imp fun v s4 ⟨z, e, hz1, hz2, h4, f4⟩ => ?_
      subst e
      simp
      refine (draw_spec (many := w) A (by omega) h4).imp fun v s5 ⟨j, e, hj1, hj2, h5, f5⟩ => ?_
      subst e
      have e5 := (f4.ext.trans f5.ext).get e3 (by omega)
      refine ⟨_, gSet_lst e5 (ixN_nn hj1 (by simp; omega)), ?_⟩
      refine htup _ _ ((List.replicate w (0 : Int)).set j.toNat (1 + z)) ?_ ?_ (h5.set (by omega)) (((x3.trans f4.ext).trans f5.ext).set (by omega))
      · rw [set_same e5]
        simp
      · refine ⟨⟨by simp, fun x hx => ?_⟩, 1 + z, ?_, by omega⟩
        · rcases List.mem_or_eq_of_mem_set hx with hx | rfl
          · rw [List.eq_of_mem_replicate hx]; omega
          · omega
        · exact List.mem_iff_getElem?.mpr ⟨j.toNat, by rw [List.getElem?_set_self (by simp; omega)]⟩
    by_cases hk : kind = 3
    · simp [hk]
      exact ⟨one_le_size, by simpa using repl _ (h2.push (q := [Ob.lst (List.map D.int ns)])) x2.push⟩
    · simp [hk]
      refine any_ne (by simp) (by simp [wipeD]) (by omega) ?_
      refine ⟨_, any_bls, ?_⟩
      cases hb : (ns.map fun x => !decide (x = 0)).any id with
      | true =>
        right
        refine ⟨rfl, htup _ _ ns last_of ((⟨hw2, hr.bd⟩ : IsRow p w ns).any hb) h2.push x2.push⟩
      | false =>
        left
        exact ⟨rfl, one_le_size, by simpa using repl _ (h2.push (q := [Ob.lst (List.map D.int ns)])) x2.push⟩
end DL
end
/-! ### P5 -/
section
set_option linter.all false
set_option maxRecDepth 100000
/-! P5: mixed sums, lists of sums. -/
namespace DL
open PySem PySem.Spec L2
open PyProof.Rows hiding St
theorem IsRow.small {p : Int} {w : Nat} {ns : List Int} (h : IsRow p w ns) (hp : p < 1000) : ∀ x ∈ ns, -(2 ^ 64) < x ∧ x < 2 ^ 64 := fun x hx => by
  have := h.bd x hx
  omega
theorem mem_zw {α β γ : Type} {f : α → β → γ} : ∀ {xs : List α} {ys : List β} {z : γ}, z ∈ List.zipWith f xs ys → ∃ a b, a ∈ xs ∧ b ∈ ys ∧ z = f a b
  | [], _, _, h => by simp at h
  | _ :: _, [], _, h => by simp at h
  | x :: xs, y :: ys, z, h => by
    simp only [List.zipWith_cons_cons, List.mem_cons] at h
    rcases h with rfl | h
    · exact ⟨x, y, List.mem_cons_self, List.mem_cons_self, rfl⟩
    · obtain ⟨a, b, ha, hb, e⟩ := mem_zw h
      exact ⟨a, b, List.mem_cons_of_mem _ ha, List.mem_cons_of_mem _ hb, e⟩
/-- a row and another one so many times -/
def axpy (p : Int) (xs : List Int) (t : Int) (ys : List Int) : List Int := List.zipWith (fun a b => (a + t * b) % p) xs ys
theorem IsRow.axpy {p t : Int} {w : Nat} {xs ys : List Int} (hp : 0 < p) (h1 : IsRow p w xs) (h2 : IsRow p w ys) : IsRow p w (axpy p xs t ys) := by
  refine ⟨by simp [DL.axpy, h1.len, h2.len], fun x hx => ?_⟩
  obtain ⟨a, b, _, _, rfl⟩ := mem_zw hx
  exact ⟨Int.emod_nonneg _ (by omega), Int.emod_lt_of_pos _ hp⟩
theorem IsRow.zeros {p : Int} {w : Nat} (hp : 0 < p) : IsRow p w (List.replicate w 0) := ⟨by simp, fun x hx => by rw [List.eq_of_mem_replicate hx]; omega⟩
/-- in the midst of mixed -/
def MixIn (s : Sto) (p : Int) (w : Nat) (d : D) (r1 : Env) (s1 : Sto) : Prop := ∃ (n : Nat) (ns : List Int) (v4 v5 v6 : Option D), r1 = [some (.loc 2), some (.int p), some d, some (.loc n), v4, v5, v6, none, none, none] ∧ s.length ≤ n ∧ s1[n]? = some (.lst (ns.map .int)) ∧ IsRow p w ns ∧ HS s1 ∧ Ext s s1
theorem mixed_spec (A : Str → Addr) {p : Int} {w : Nat} {s : Sto} {d : D} {S : List (List Int)} (hp : 2 ≤ p ∧ p < 1000) (hw : 1 ≤ w ∧ w < 1000) (h : HS s) (hd : SeqO s d (S.map rowD)) (h0 : S ≠ []) (hl : S.length < 1000) (hS : ∀ r ∈ S, IsRow p w r) :
    RW (l_law_mixed A [.loc 2, .int p, d] s) fun v s' => (v = .non ∨ ∃ ns, v = rowD ns ∧ IsSm p w ns) ∧ HS s' ∧ Ext s s' := by
  unfold l_law_mixed
  rw [RW_def]
  refine ⟨rfl, ?_⟩
  rw [SW_seq]
  obtain ⟨r0, rest, rfl⟩ : ∃ r0 rest, S = r0 :: rest := by
    cases S with
    | nil => exact absurd rfl h0
    | cons a b => exact ⟨a, b, rfl⟩
  have hr0 := hS r0 List.mem_cons_self
  have hlw : (r0.map D.int).length = w := by simp [hr0.len]
  have hd1 : SeqO (s ++ [Ob.lst [D.int 0]]) d ((r0 :: rest).map rowD) := hd.ext Ext.refl.push
  simp [hd1.at.ix]
  refine ⟨one_le_size, ?_⟩
  rw [gMul_lst last_of ⟨by omega, by rw [hr0.len]; omega⟩]
  simp [hr0.len]
  have hs3 := h.len
  have h1 : HS (s ++ [Ob.lst [D.int 0], Ob.lst (List.replicate w (D.int 0))]) := h.push
  have x1 : Ext s (s ++ [Ob.lst [D.int 0], Ob.lst (List.replicate w (D.int 0))]) := Ext.refl.push
  have e1 : (s ++ [Ob.lst [D.int 0], Ob.lst (List.replicate w (D.int 0))])[s.length + 1]? = some (.lst ((List.replicate w (0 : Int)).map .int)) := by
    rw [List.getElem?_append_right (by omega)]
    simp
  refine (draw_spec (many := 3) A (by omega) h1).imp fun v s2 ⟨turns, e, ht1, ht2, h2, f2⟩ => ?_
  subst e
  simp
  refine ⟨by omega, by omega, ?_⟩
  have e2 := f2.ext.get e1 (by omega)
  refine SW_forGo (fun _ => MixIn s p w d) ?_ ?_ ?_ ?_
  · exact ⟨s.length + 1, List.replicate w 0, none, none, none, rfl, by omega, e2, .zeros (by omega), h2, x1.trans f2.ext⟩
  · intros; simp
  · rintro i dd r1 s1 hdd ⟨n, ns, v4, v5, v6, rfl, hn, en, hrow, h3, x3⟩
    simp
    refine (any_spec A h3 (hd.ext x3) (by simp) (by simp at hl ⊢; omega)).imp fun v s4 ⟨hv, h4, f4⟩ => ?_
    obtain ⟨one, hone, rfl⟩ := List.mem_map.mp hv
    have ro := hS one hone
    refine (draw_spec (many := p - 1) A (by omega) h4).imp fun v s5 ⟨t, e, ht1, ht2, h5, f5⟩ => ?_
    subst e
    simp
    refine ⟨small24 (by decide), ?_⟩
    have e5 := (f4.ext.trans f5.ext).get en (by omega)
    have x5 := (x3.trans f4.ext).trans f5.ext
    refine ⟨_, _, src_lst e5, ?_⟩
    refine lc_zip (F := fun a b => (a + (1 + t) * b) % p) (by simpa using e5) (small24 (by rw [hrow.len]; omega)) (fun a ha b hb => ?_) ?_
    · have hb2 := ro.small hp.2 b hb
      simp [wipeD]
      rw [gMul_r hb2]
      simp
      have hp0 : 0 < p := by omega
      simp [hp0]
    · refine ⟨s5.length, axpy p ns (1 + t) one, _, _, _, rfl, by have := x5.1; omega, ?_, hrow.axpy (by omega) ro, h5.push, x5.push⟩
      simp [axpy]
  · rintro r1 s1 ⟨n, ns, v4, v5, v6, rfl, hn, en, hrow, h3, x3⟩
    simp
    refine ⟨_, _, src_lst en, ?_⟩
    refine any_ne (by simpa using en) (by simp [wipeD]) (by rw [hrow.len]; omega) ?_
    refine ⟨_, any_bls, ?_⟩
    cases hb : (ns.map fun x => !decide (x = 0)).any id with
    | false => left; exact ⟨rfl, h3, x3⟩
    | true =>
      right
      refine ⟨rfl, ?_⟩
      rw [gS_of (.loc en)]
      exact ⟨.inr ⟨ns, rfl, hrow.any hb⟩, h3, x3⟩
/-- in the midst of sums -/
def SumsIn (s : Sto) (p : Int) (w most i : Nat) (r1 : Env) (s1 : Sto) : Prop := ∃ (S : List (List Int)) (v5 v6 : Option D), r1 = [some (.loc 2), some (.int p), some (.int w), some (.int most), some (.loc s.length), v5, v6] ∧ s1[s.length]? = some (.lst (S.map rowD)) ∧ S.length = i ∧ (∀ r ∈ S, IsSm p w r) ∧ HS s1 ∧ Ext s s1
theorem append_lst {s : Sto} {n : Nat} {xs : List D} {y : D} (h : s[n]? = some (.lst xs)) (hl : xs.length < sizeLine) : gAppend (.loc n) [y] s = some (.non, s.set n (.lst (xs ++ [y]))) := by
  simp only [gAppend, h]
  rw [if_pos hl]
theorem sums_spec (A : Str → Addr) {p : Int} {w most : Nat} {s : Sto} (hp : 2 ≤ p ∧ p < 1000) (hw : 1 ≤ w ∧ w < 1000) (hm : most < 1000) (h : HS s) :
    RW (l_law_sums A [.loc 2, .int p, .int w, .int most] s) fun v s' => (∃ S, v = sumsD S ∧ S.length ≤ most ∧ ∀ r ∈ S, IsSm p w r) ∧ HS s' ∧ Ext s s' := by
  unfold l_law_sums
  rw [RW_def]
  refine ⟨rfl, ?_⟩
  have hs3 := h.len
  simp
  refine (draw_spec (many := most + 1) A (by omega) h.push).imp fun v s2 ⟨turns, e, ht1, ht2, h2, f2⟩ => ?_
  subst e
  simp
  refine ⟨by omega, by omega, ?_⟩
  have e2 := f2.ext.get last_of (by omega)
  refine SW_forGo (SumsIn s p w most) ?_ ?_ ?_ ?_
  · exact ⟨[], none, none, rfl, e2, rfl, by simp, h2, Ext.refl.push.trans f2.ext⟩
  · intros; simp
  · rintro i dd r1 s1 hdd ⟨S, v5, v6, rfl, en, hlen, hrows, h3, x3⟩
    have hi : i < turns.toNat := by
      have := (List.getElem?_eq_some_iff.mp hdd).1
      simpa using this
    simp
    -- what is put in
    have put : ∀ (s5 : Sto) (ns : List Int) (v6 : Option D), s5[s.length]? = some (.lst (S.map rowD)) → HS s5 → Ext s s5 → IsSm p w ns →
        RW (R.of (gAppend (.loc s.length) [rowD ns] s5)) fun _ s6 => SumsIn s p w most (i + 1) [some (D.loc 2), some (.int p), some (.int w), some (.int most), some (.loc s.length), some dd, v6] s6 := by
      intro s5 ns v6 e5 h5 x5 hns
      rw [append_lst e5 (by rw [List.length_map]; exact small24' (by omega))]
      refine ⟨S ++ [ns], some dd, v6, rfl, by rw [set_same e5]; simp, by simp [hlen], fun r hr => ?_, h5.set hs3, x5.set (Nat.le_refl _)⟩
      rcases List.mem_append.mp hr with hr | hr
      · exact hrows r hr
      · simp at hr; subst hr; exact hns
    have app : ∀ (s4 : Sto) (v : D), s4[s.length]? = some (.lst (S.map rowD)) → HS s4 → Ext s s4 → (v = .non ∨ ∃ ns, v = rowD ns ∧ IsSm p w ns) →
        (itL s4 (D.loc s.length)).isSome = true ∧ RW (R.of (gIs v D.non s4)) fun d s1 => (d = .bl false ∧ RW (R.of (gAppend (.loc s.length) [v] s1)) fun _ s6 => SumsIn s p w most (i + 1) [some (D.loc 2), some (.int p), some (.int w), some (.int most), some (.loc s.length), some dd, some v] s6) ∨
          d = .bl true ∧ RW (l_law_sum A [.loc 2, .int p, .int w] s1) fun d s2 => RW (R.of (gAppend (.loc s.length) [d] s2)) fun _ s6 => SumsIn s p w most (i + 1) [some (D.loc 2), some (.int p), some (.int w), some (.int most), some (.loc s.length), some dd, some v] s6 := by
      intro s4 v e4 h4 x4 hv
      refine ⟨by simp [itL, e4], ?_⟩
      rcases hv with rfl | ⟨ns, rfl, hns⟩
      · simp
        refine (sum_spec A hp hw h4).imp fun v s5 ⟨⟨ns, e, hns⟩, h5, x5⟩ => ?_
        subst e
        exact put s5 ns _ (x5.get e4 (by omega)) h5 (x4.trans x5) hns
      · simp
        exact put s4 ns _ e4 h4 x4 hns
    rw [gLen_lst en]
    simp
    by_cases hpos : 0 < S.length
    · right
      refine ⟨by omega, ?_⟩
      refine (draw_spec (many := 2) A (by omega) h3).imp fun v s4 ⟨z, e, hz1, hz2, h4, f4⟩ => ?_
      subst e
      simp
      have e4 := f4.ext.get en (by omega)
      have x4 := x3.trans f4.ext
      by_cases hz : z = 0
      · right
        refine ⟨hz, ?_⟩
        refine (mixed_spec A hp hw h4 (.inr ⟨s.length, by omega, rfl, e4⟩) (by intro q; simp [q] at hpos) (by omega) fun r hr => (hrows r hr).1).imp fun v s5 ⟨hv, h5, x5⟩ => ?_
        exact app s5 v (x5.get e4 (by omega)) h5 (x4.trans x5) hv
      · left
        refine ⟨hz, ?_⟩
        have := app s4 .non e4 h4 x4 (.inl rfl)
        simpa using this
    · left
      refine ⟨by simpa using hpos, ?_⟩
      have := app s1 .non en h3 x3 (.inl rfl)
      simpa using this
  · rintro r1 s1 ⟨S, v5, v6, rfl, en, hlen, hrows, h3, x3⟩
    simp
    rw [gS_of (.loc en)]
    have hlen2 : S.length = turns.toNat := by simpa using hlen
    exact ⟨⟨S, rfl, by omega, hrows⟩, h3, x3⟩
end DL
end
/-! ### LA -/
section
set_option linter.all false
/-! LA: sums of rows modulo a prime; no program. -/
namespace LA
abbrev Vec := Nat → Int
/-- 0 below w, modulo p -/
def Z (p : Int) (w : Nat) (v : Vec) : Prop := ∀ j, j < w → p ∣ v j
def Sp (p : Int) (w : Nat) : List Vec → Vec → Prop
  | [], v => Z p w v
  | L :: Ls, v => ∃ r : Int, Sp p w Ls (fun j => v j - r * L j)
section
variable {p : Int} {w : Nat}
theorem dvd2 {a b x : Int} (u v : Int) (h1 : p ∣ a) (h2 : p ∣ b) (e : x = a * u + b * v) : p ∣ x := by
  obtain ⟨k1, e1⟩ := h1
  obtain ⟨k2, e2⟩ := h2
  exact ⟨k1 * u + k2 * v, by grind⟩
theorem dvd1 {a x : Int} (u : Int) (h1 : p ∣ a) (e : x = a * u) : p ∣ x := by
  obtain ⟨k1, e1⟩ := h1
  exact ⟨k1 * u, by grind⟩
theorem dvd3 {a b c x : Int} (u v t : Int) (h1 : p ∣ a) (h2 : p ∣ b) (h3 : p ∣ c) (e : x = a * u + b * v + c * t) : p ∣ x := by
  obtain ⟨k1, e1⟩ := h1
  obtain ⟨k2, e2⟩ := h2
  obtain ⟨k3, e3⟩ := h3
  exact ⟨k1 * u + k2 * v + k3 * t, by grind⟩
theorem Sp.congr : ∀ {Ls : List Vec} {u v : Vec}, Sp p w Ls u → (∀ j, j < w → p ∣ u j - v j) → Sp p w Ls v
  | [], u, v, h, e => fun j hj => dvd2 1 (-1) (h j hj) (e j hj) (by grind)
  | L :: Ls, u, v, ⟨r, h⟩, e => ⟨r, Sp.congr h fun j hj => dvd1 1 (e j hj) (by grind)⟩
theorem Sp.eq {Ls : List Vec} {u v : Vec} (h : Sp p w Ls u) (e : ∀ j, j < w → u j = v j) : Sp p w Ls v := h.congr fun j hj => ⟨0, by rw [e j hj]; grind⟩
theorem Sp.lin : ∀ {Ls : List Vec} {u v : Vec} (a b : Int), Sp p w Ls u → Sp p w Ls v → Sp p w Ls (fun j => a * u j + b * v j)
  | [], u, v, a, b, h1, h2 => fun j hj => dvd2 a b (h1 j hj) (h2 j hj) (by grind)
  | L :: Ls, u, v, a, b, ⟨r1, h1⟩, ⟨r2, h2⟩ => ⟨a * r1 + b * r2, (Sp.lin a b h1 h2).eq fun j _ => by grind⟩
theorem Sp.zero : ∀ {Ls : List Vec} {v : Vec}, Z p w v → Sp p w Ls v
  | [], v, h => h
  | L :: Ls, v, h => ⟨0, Sp.zero fun j hj => dvd1 1 (h j hj) (by grind)⟩
theorem Sp.smul {Ls : List Vec} {u : Vec} (a : Int) (h : Sp p w Ls u) : Sp p w Ls (fun j => a * u j) :=
  (Sp.lin a 0 h h).eq fun j _ => by grind
theorem Sp.add {Ls : List Vec} {u v : Vec} (h1 : Sp p w Ls u) (h2 : Sp p w Ls v) : Sp p w Ls (fun j => u j + v j) :=
  (Sp.lin 1 1 h1 h2).eq fun j _ => by grind
theorem Sp.sub {Ls : List Vec} {u v : Vec} (h1 : Sp p w Ls u) (h2 : Sp p w Ls v) : Sp p w Ls (fun j => u j - v j) :=
  (Sp.lin 1 (-1) h1 h2).eq fun j _ => by grind
theorem Sp.cons {Ls : List Vec} {L v : Vec} (h : Sp p w Ls v) : Sp p w (L :: Ls) v := ⟨0, h.eq fun j _ => by grind⟩
theorem Sp.mem : ∀ {Ls : List Vec} {L : Vec}, L ∈ Ls → Sp p w Ls L
  | [], L, h => by cases h
  | M :: Ls, L, h => by
    rcases List.mem_cons.mp h with rfl | h
    · exact ⟨1, Sp.zero fun j hj => ⟨0, by grind⟩⟩
    · exact (Sp.mem h).cons
theorem Sp.trans : ∀ {Ls Ms : List Vec} {v : Vec}, (∀ L ∈ Ls, Sp p w Ms L) → Sp p w Ls v → Sp p w Ms v
  | [], Ms, v, _, h => Sp.zero h
  | L :: Ls, Ms, v, hm, ⟨r, h⟩ => by
    have h1 := Sp.trans (fun L hL => hm L (List.mem_cons_of_mem _ hL)) h
    exact (h1.add ((hm L List.mem_cons_self).smul r)).eq fun j _ => by grind
theorem Sp.mono {Ls Ms : List Vec} {v : Vec} (h : Sp p w Ls v) (hm : ∀ L ∈ Ls, L ∈ Ms) : Sp p w Ms v := Sp.trans (fun L hL => Sp.mem (hm L hL)) h
/-- where all rows are 0, all that they make is -/
theorem Sp.at : ∀ {Ls : List Vec} {v : Vec} {q : Nat}, q < w → (∀ L ∈ Ls, p ∣ L q) → Sp p w Ls v → p ∣ v q
  | [], v, q, hq, _, h => h q hq
  | L :: Ls, v, q, hq, hm, ⟨r, h⟩ => by
    have h1 := Sp.at hq (fun L hL => hm L (List.mem_cons_of_mem _ hL)) h
    exact dvd2 1 r h1 (hm L List.mem_cons_self) (by grind)
/-! ### rows with places -/
/-- 1 at its place, where all rows behind it are 0 -/
def Tri (p : Int) (w : Nat) : List (Nat × Vec) → Prop
  | [] => True
  | (q, L) :: R => q < w ∧ p ∣ L q - 1 ∧ (∀ x ∈ R, p ∣ x.2 q) ∧ Tri p w R
abbrev vs (R : List (Nat × Vec)) : List Vec := R.map (·.2)
theorem tri_zero : ∀ {R : List (Nat × Vec)} {u : Vec}, Tri p w R → Sp p w (vs R) u → (∀ x ∈ R, p ∣ u x.1) → Z p w u
  | [], u, _, h, _ => h
  | (q, L) :: R, u, ⟨hq, h1, h2, ht⟩, ⟨r, h⟩, hz => by
    have hu := hz (q, L) List.mem_cons_self
    dsimp only at hu
    have hq' : p ∣ u q - r * L q := Sp.at hq (fun M hM => by obtain ⟨x, hx, rfl⟩ := List.mem_map.mp hM; exact h2 x hx) h
    have hr : p ∣ r := dvd3 1 (-1) (-r) hu hq' h1 (by grind)
    have hz2 := tri_zero ht h fun x hx => dvd2 1 (-(L x.1)) (hz x (List.mem_cons_of_mem _ hx)) hr (by grind)
    exact fun j hj => dvd2 1 (L j) (hz2 j hj) hr (by grind)
/-- what is left -/
def fall : List (Nat × Vec) → Vec → Vec
  | [], v => v
  | (q, L) :: R, v => fall R (fun j => v j - v q * L j)
theorem fall_keep : ∀ {R : List (Nat × Vec)} {v : Vec} {q : Nat}, (∀ x ∈ R, p ∣ x.2 q) → p ∣ v q → p ∣ fall R v q
  | [], v, q, _, h => h
  | (q', L) :: R, v, q, hm, h => by
    have h1 := hm (q', L) List.mem_cons_self
    show p ∣ fall R (fun j => v j - v q' * L j) q
    exact fall_keep (fun x hx => hm x (List.mem_cons_of_mem _ hx)) (dvd2 1 (-(v q')) h h1 (by grind))
theorem fall_spec : ∀ {R : List (Nat × Vec)} {v : Vec}, Tri p w R → (∀ x ∈ R, p ∣ fall R v x.1) ∧ Sp p w (vs R) (fun j => v j - fall R v j)
  | [], v, _ => ⟨by simp, fun j _ => ⟨0, by simp [fall]⟩⟩
  | (q, L) :: R, v, ⟨hq, h1, h2, ht⟩ => by
    obtain ⟨a, b⟩ := fall_spec (R := R) (v := fun j => v j - v q * L j) ht
    refine ⟨fun x hx => ?_, v q, b.eq fun j _ => by simp only [fall]; grind⟩
    rcases List.mem_cons.mp hx with rfl | hx
    · show p ∣ fall R (fun j => v j - v q * L j) q
      exact fall_keep h2 (dvd1 (-(v q)) h1 (by grind))
    · exact a x hx
/-- 0 is left of just what the rows make -/
theorem fall_iff {R : List (Nat × Vec)} {v : Vec} (h : Tri p w R) : Z p w (fall R v) ↔ Sp p w (vs R) v := by
  obtain ⟨a, b⟩ := fall_spec (v := v) h
  constructor
  · exact fun z => b.congr fun j hj => dvd1 (-1) (z j hj) (by grind)
  · exact fun s => tri_zero h ((s.sub b).eq fun j _ => by grind) a
/-! ### sums -/
def sm : Nat → (Nat → Int) → Int
  | 0, _ => 0
  | n + 1, f => sm n f + f n
theorem sm_lin (a b : Int) (f g : Nat → Int) : ∀ n, sm n (fun i => a * f i + b * g i) = a * sm n f + b * sm n g
  | 0 => by simp [sm]
  | n + 1 => by simp only [sm, sm_lin a b f g n]; grind
theorem sm_congr {f g : Nat → Int} : ∀ {n : Nat}, (∀ i, i < n → f i = g i) → sm n f = sm n g
  | 0, _ => rfl
  | n + 1, h => by simp only [sm]; rw [sm_congr fun i hi => h i (by omega), h n (by omega)]
theorem sm_dvd {f : Nat → Int} : ∀ {n : Nat}, (∀ i, i < n → p ∣ f i) → p ∣ sm n f
  | 0, _ => ⟨0, by simp [sm]⟩
  | n + 1, h => by
    have h1 := sm_dvd (n := n) fun i hi => h i (by omega)
    show p ∣ sm n f + f n
    exact dvd2 1 1 h1 (h n (by omega)) (by grind)
theorem sm_zero {f : Nat → Int} {n : Nat} (h : ∀ i, i < n → f i = 0) : sm n f = 0 := by
  induction n with
  | zero => rfl
  | succ n ih => simp only [sm]; rw [ih fun i hi => h i (by omega), h n (by omega)]; rfl
/-- the sums ahead of the n-th -/
abbrev upto (S : Nat → Vec) (n : Nat) : List Vec := (List.range n).map S
theorem upto_succ (S : Nat → Vec) (n : Nat) : upto S (n + 1) = upto S n ++ [S n] := by simp [upto, List.range_succ]
theorem Sp.snoc {Ls : List Vec} {L v : Vec} : Sp p w (Ls ++ [L]) v ↔ ∃ r, Sp p w Ls (fun j => v j - r * L j) := by
  constructor
  · intro h
    have : ∀ {Ls : List Vec} {v : Vec}, Sp p w (Ls ++ [L]) v → ∃ r, Sp p w Ls (fun j => v j - r * L j) := by
      intro Ls
      induction Ls with
      | nil => intro v h; exact h
      | cons M Ls ih =>
        intro v ⟨r, h⟩
        obtain ⟨r2, h2⟩ := ih h
        exact ⟨r2, r, h2.eq fun j _ => by grind⟩
    exact this h
  · rintro ⟨r, h⟩
    have h1 : Sp p w (Ls ++ [L]) (fun j => v j - r * L j) := h.mono fun M hM => List.mem_append_left _ hM
    exact (h1.add ((Sp.mem (p := p) (w := w) (Ls := Ls ++ [L]) (L := L) (by simp)).smul r)).eq fun j _ => by grind
theorem sp_sum (S : Nat → Vec) (c : Nat → Int) : ∀ n, Sp p w (upto S n) (fun j => sm n fun i => c i * S i j)
  | 0 => fun j _ => ⟨0, by simp [sm]⟩
  | n + 1 => by
    rw [upto_succ]
    exact Sp.snoc.mpr ⟨c n, (sp_sum S c n).eq fun j _ => by simp only [sm]; grind⟩
/-- made of the sums ahead: by which values -/
theorem sp_iff {S : Nat → Vec} : ∀ {n : Nat} {v : Vec}, Sp p w (upto S n) v ↔ ∃ c : Nat → Int, ∀ j, j < w → p ∣ v j - sm n fun i => c i * S i j := by
  intro n v
  constructor
  · have : ∀ (n : Nat) (v : Vec), Sp p w (upto S n) v → ∃ c : Nat → Int, ∀ j, j < w → p ∣ v j - sm n fun i => c i * S i j := by
      intro n
      induction n with
      | zero => intro v h; exact ⟨fun _ => 0, fun j hj => dvd1 1 (h j hj) (by simp [sm])⟩
      | succ n ih =>
        intro v h
        rw [upto_succ] at h
        obtain ⟨r, h⟩ := Sp.snoc.mp h
        obtain ⟨c, hc⟩ := ih _ h
        refine ⟨fun i => if i = n then r else c i, fun j hj => dvd1 1 (hc j hj) ?_⟩
        simp only [sm]
        rw [sm_congr (f := fun i => (if i = n then r else c i) * S i j) (g := fun i => c i * S i j) fun i hi => by rw [if_neg (by omega)]]
        simp only [if_true]
        grind
    exact this n v
  · rintro ⟨c, hc⟩
    exact (sp_sum S c n).congr fun j hj => dvd1 (-1) (hc j hj) (by grind)
/-! ### primes -/
structure Pr (p : Int) : Prop where
  two : 2 ≤ p
  no : ∀ q, 2 ≤ q → q < p → p % q ≠ 0
theorem Pr.inv0 {p : Int} (h : Pr p) : ∀ (n : Nat) (a : Int), a.toNat = n → 0 < a → a < p → ∃ b, p ∣ a * b - 1 := by
  intro n
  induction n using Nat.strongRecOn with
  | _ n ih =>
    intro a hn h0 hp
    by_cases h1 : a = 1
    · exact ⟨1, 0, by rw [h1]; omega⟩
    · have hr := h.no a (by omega) hp
      have hr0 := Int.emod_nonneg p (show a ≠ 0 by omega)
      have hr1 := Int.emod_lt_of_pos p h0
      obtain ⟨b, hb⟩ := ih (p % a).toNat (by omega) (p % a) rfl (by omega) (by omega)
      have e := Int.emod_add_mul_ediv p a
      refine ⟨-(p / a) * b, ?_⟩
      obtain ⟨k, hk⟩ := hb
      exact ⟨k - b, by grind⟩
theorem Pr.inv {p : Int} (h : Pr p) {a : Int} (ha : ¬ p ∣ a) : ∃ b, p ∣ a * b - 1 := by
  have hp : 0 < p := by have := h.two; omega
  have h0 := Int.emod_nonneg a (show p ≠ 0 by omega)
  have h1 := Int.emod_lt_of_pos a hp
  have h2 : a % p ≠ 0 := fun e => ha (Int.dvd_of_emod_eq_zero e)
  obtain ⟨b, k, hb⟩ := h.inv0 _ (a % p) rfl (by omega) h1
  have e := Int.emod_add_mul_ediv a p
  exact ⟨b, k + a / p * b, by grind⟩
theorem Pr.cancel {p : Int} (h : Pr p) {a b : Int} (ha : ¬ p ∣ a) (hab : p ∣ a * b) : p ∣ b := by
  obtain ⟨c, hc⟩ := h.inv ha
  exact dvd2 (-b) c hc hab (by grind)
/-! ### alone -/
/-- the i-th sum is not made of those ahead -/
def Al (p : Int) (w : Nat) (S : Nat → Vec) (i : Nat) : Prop := ¬ Sp p w (upto S i) (S i)
/-- values at sums that are alone: there is just one way -/
theorem uniq {p : Int} {w : Nat} (hp : Pr p) {S : Nat → Vec} : ∀ {n : Nat} {c : Nat → Int}, (∀ i, i < n → Al p w S i ∨ p ∣ c i) → (∀ j, j < w → p ∣ sm n fun i => c i * S i j) → ∀ i, i < n → p ∣ c i
  | 0, _, _, _, i, hi => by omega
  | n + 1, c, hI, hz, i, hi => by
    by_cases hd : p ∣ c n
    · by_cases hin : i = n
      · rw [hin]; exact hd
      · refine uniq hp (n := n) (fun i hi => hI i (by omega)) (fun j hj => ?_) i (by omega)
        exact dvd2 1 (-(S n j)) (hz j hj) hd (by simp only [sm]; grind)
    · refine absurd ?_ ((hI n (by omega)).resolve_right hd)
      obtain ⟨b, hb⟩ := hp.inv hd
      refine sp_iff.mpr ⟨fun i => -b * c i, fun j hj => ?_⟩
      have e : sm n (fun i => -b * c i * S i j) = -b * sm n (fun i => c i * S i j) := by
        have := sm_lin (-b) 0 (fun i => c i * S i j) (fun _ => 0) n
        rw [sm_congr (g := fun i => -b * (c i * S i j) + 0 * 0) fun i _ => by grind, this]
        grind
      rw [e]
      have hzj := hz j hj
      simp only [sm] at hzj
      exact dvd2 b (-(S n j)) hzj hb (by grind)
end
end LA
end
/-! ### P6 -/
section
set_option linter.all false
set_option maxRecDepth 100000
/-! P6: the package's small functions over right things. -/
namespace DL
open PySem PySem.Spec L2
open PyProof.Rows hiding St
open LA
/-- what stood stands -/
def Pre (s s' : Sto) : Prop := s.length ≤ s'.length ∧ ∀ k, k < s.length → s'[k]? = s[k]?
theorem Pre.refl {s : Sto} : Pre s s := ⟨Nat.le_refl _, fun _ _ => rfl⟩
theorem Pre.trans {s s1 s2 : Sto} (a : Pre s s1) (b : Pre s1 s2) : Pre s s2 := ⟨Nat.le_trans a.1 b.1, fun k hk => (b.2 k (Nat.lt_of_lt_of_le hk a.1)).trans (a.2 k hk)⟩
theorem Pre.push {s s1 q : Sto} (a : Pre s s1) : Pre s (s1 ++ q) := ⟨by simp; have := a.1; omega, fun k hk => by rw [List.getElem?_append_left (Nat.lt_of_lt_of_le hk a.1)]; exact a.2 k hk⟩
theorem Pre.set {s s1 : Sto} (a : Pre s s1) {n : Nat} {ob : Ob} (hn : s.length ≤ n) : Pre s (s1.set n ob) := ⟨by simp; exact a.1, fun k hk => by rw [List.getElem?_set_ne (by omega)]; exact a.2 k hk⟩
theorem Pre.get {s s1 : Sto} (a : Pre s s1) {n : Nat} {ob : Ob} (h : s[n]? = some ob) : s1[n]? = some ob := by rw [a.2 n (len_of h)]; exact h
theorem Pre.ext {s s1 : Sto} (a : Pre s s1) : Ext s s1 := ⟨a.1, fun k _ hk => a.2 k hk⟩
theorem Pre.hs {s s1 : Sto} (a : Pre s s1) (h : HS s) : HS s1 := by
  obtain ⟨cells, i, x, y, c, h1, h2, hi⟩ := h
  exact ⟨cells, i, x, y, c, a.get h1, a.get h2, hi⟩
theorem SeqAt.pre {s s1 : Sto} {d : D} {xs : List D} (h : SeqAt s d xs) (a : Pre s s1) : SeqAt s1 d xs := by
  rcases h with rfl | ⟨n, rfl, h⟩
  · exact .tup
  · exact .loc (a.get h)
/-- whether a thing is a whole number from lo to hi -/
def inR (lo hi : Int) : D → Bool
  | .int x => decide (lo ≤ x) && decide (x ≤ hi)
  | _ => false
theorem within_int (A : Str → Addr) {x lo hi : Int} {s : Sto} : l_is_within A [.int x, .int lo, .int hi] s = .ok (.bl (decide (lo ≤ x) && decide (x ≤ hi))) s := by
  apply RW.eq
  unfold l_is_within l_is_integer
  simp
  by_cases h1 : lo ≤ x
  · simp [h1]
  · simp [h1]; omega
theorem within_spec (A : Str → Addr) {d : D} {lo hi : Int} {s : Sto} {t : String} (h : tyD s d = some t) : l_is_within A [d, .int lo, .int hi] s = .ok (.bl (inR lo hi d)) s := by
  cases d with
  | int x => exact within_int A
  | non => apply RW.eq; unfold l_is_within l_is_integer; simp [inR]
  | bl b => apply RW.eq; unfold l_is_within l_is_integer; simp [inR]
  | str x => apply RW.eq; unfold l_is_within l_is_integer; simp [inR]
  | tup xs => apply RW.eq; unfold l_is_within l_is_integer; simp [inR]
  | con v => cases h
  | loc n =>
    apply RW.eq
    unfold l_is_within l_is_integer
    simp only [tyD] at h
    split at h
    · rename_i xs e
      simp [gIsi, tyD, e, inR]
    · rename_i xs e
      simp [gIsi, tyD, e, inR]
    · cases h
theorem prime_true (A : Str → Addr) {p : Int} {s : Sto} (hp : Pr p) (h2 : p ≤ 251) : l_is_prime A [.int p] s = .ok (.bl true) s := by
  have h1 := hp.two
  apply RW.eq
  unfold l_is_prime
  simp [within_int, h1, h2, truB]
  refine ⟨by omega, ?_⟩
  refine lc_range (f := fun i => .bl (!decide (p % (2 + (i : Int)) = 0))) (b := fun _ => true) (by simp) (small24 (by omega)) (fun i hi => ?_) ?_
  · have hi2 : 0 < 2 + (i : Int) := by omega
    simp [wipeD, hi2]
  · rw [List.filter_eq_self.mpr fun _ _ => rfl]
    have e : (List.range (p - 2).toNat).map (fun (i : Nat) => D.bl (!decide (p % (2 + (i : Int)) = 0))) = ((List.range (p - 2).toNat).map fun (i : Nat) => !decide (p % (2 + (i : Int)) = 0)).map .bl := by
      rw [List.map_map]; rfl
    rw [e]
    refine ⟨?_, rfl⟩
    rw [all_bls]
    simp
    intro i hi
    exact hp.no _ (by omega) (by omega)
theorem check_prime_ok (A : Str → Addr) {p : Int} {s : Sto} (hp : Pr p) (h2 : p ≤ 251) : l_check_prime A [.int p] s = .ok .non s := by
  apply RW.eq
  unfold l_check_prime
  simp [prime_true A hp h2, truB]
theorem all_true {α : Type} {xs : List α} {f : α → Bool} (h : ∀ x ∈ xs, f x = true) : ((xs.map f).all id) = true := by
  simp; exact h
theorem sum_true (A : Str → Addr) {p : Int} {w : Nat} {ns : List Int} {s : Sto} (hw : 1 ≤ w ∧ w ≤ 10) (h : IsSm p w ns) : l_is_sum A [.int p, rowD ns] s = .ok (.bl true) s := by
  apply RW.eq
  unfold l_is_sum
  have hl := h.1.len
  simp [hl]
  refine ⟨by omega, by omega, ?_⟩
  refine lc_ints (f := fun x => .bl (decide (0 ≤ x) && decide (x ≤ p - 1))) (b := fun _ => true) (by simp) (small24 (by omega)) (fun x hx => ?_) ?_
  · simp [wipeD, within_int]
  · rw [List.filter_eq_self.mpr fun _ _ => rfl]
    have e : ns.map (fun x => D.bl (decide (0 ≤ x) && decide (x ≤ p - 1))) = (ns.map fun x => decide (0 ≤ x) && decide (x ≤ p - 1)).map .bl := by
      rw [List.map_map]; rfl
    rw [e]
    refine ⟨_, all_bls, ?_, ?_⟩
    · congr 1
      refine all_true fun x hx => ?_
      have := h.1.bd x hx
      simp; omega
    · refine any_ne (xs := ns) ?_ ?_ ?_ ?_
      · simp
      · simp [wipeD]
      · omega
      refine ⟨?_, rfl⟩
      rw [any_bls]
      obtain ⟨x, hx, h0⟩ := h.2
      simp
      exact ⟨x, hx, h0⟩
end DL
end
/-! ### P7 -/
section
set_option linter.all false
set_option maxRecDepth 100000
/-! P7: .. sums judged, rows less others, places, inverses. -/
namespace DL
open PySem PySem.Spec L2
open PyProof.Rows hiding St
open LA
/-- over rows -/
theorem lc_rows {gs : List (Nat × Ob)} {tg : MG} {te : ME} {r : Env} {s : Sto} {Q : List D → Sto → Prop} {S : List (List Int)} {f : List Int → D} (hg : guard gs s = true) (hl : S.length ≤ sizeLine)
    (h : ∀ x ∈ S, RW (tg (rowD x) r s) fun r1 s1 => s1 = s ∧ RW (te r1 s) fun y s3 => s3 = s ∧ y = f x) (q : Q (S.map f) s) : RW (mLcGo gs tg mYes te r (S.map rowD) s []) Q := by
  have key : ∀ x ∈ S, ∃ r1, tg (rowD x) r s = .ok r1 s ∧ te r1 s = .ok (f x) s := fun x hx => by
    obtain ⟨r1, s1, e, rfl, h2⟩ := (h x hx).get
    exact ⟨r1, e, h2.eq⟩
  have go : ∀ (T : List (List Int)) (acc : List D), (∀ x ∈ T, x ∈ S) → acc.length + T.length ≤ sizeLine → mLcGo gs tg mYes te r (T.map rowD) s acc = .ok (acc ++ T.map f) s := by
    intro T
    induction T with
    | nil => intro acc _ _; simp [mLcGo, hg]
    | cons x T ih =>
      intro acc hm hl
      obtain ⟨r1, h1, h2⟩ := key x (hm x List.mem_cons_self)
      simp only [List.length_cons] at hl
      simp only [List.map_cons, mLcGo]
      rw [if_pos hg]
      simp only [h1, mYes, h2]
      rw [if_pos (by omega), ih _ (fun y hy => hm y (List.mem_cons_of_mem _ hy)) (by simp; omega)]
      simp
  refine RW.of (go S [] (fun x hx => hx) (by simpa using hl)) ?_
  simpa using q
theorem map_bl {α : Type} {xs : List α} {f : α → Bool} : xs.map (fun x => D.bl (f x)) = (xs.map f).map .bl := by rw [List.map_map]; rfl
theorem sums_true (A : Str → Addr) {p : Int} {w : Nat} {S : List (List Int)} {s : Sto} (hw : 1 ≤ w ∧ w ≤ 10) (hl : S.length ≤ 40) (h : ∀ r ∈ S, IsSm p w r) : l_are_sums A [.int p, sumsD S] s = .ok (.bl true) s := by
  apply RW.eq
  unfold l_are_sums
  simp
  refine ⟨by omega, ?_⟩
  refine lc_rows (f := fun _ => .bl true) ?_ ?_ ?_ ?_
  · simp
  · exact small24 (by omega)
  · intro x hx
    simp [wipeD, sum_true A hw (h x hx)]
  · rw [map_bl]
    refine ⟨_, all_bls, ?_, ?_⟩
    · congr 1
      exact all_true fun x hx => rfl
    · refine lc_rows (f := fun _ => .bl true) ?_ ?_ ?_ ?_
      · simp
      · exact small24 (by omega)
      · intro x hx
        cases S with
        | nil => cases hx
        | cons y S =>
          simp [wipeD, (h x hx).1.len, (h y List.mem_cons_self).1.len]
      · rw [map_bl]
        refine ⟨?_, rfl⟩
        rw [all_bls]
        congr 2
        exact all_true fun x hx => rfl
theorem check_sums_ok (A : Str → Addr) {p : Int} {w : Nat} {S : List (List Int)} {s : Sto} (hp : Pr p) (h2 : p ≤ 251) (hw : 1 ≤ w ∧ w ≤ 10) (hl : S.length ≤ 40) (h : ∀ r ∈ S, IsSm p w r) : l_check_sums A [.int p, sumsD S] s = .ok .non s := by
  apply RW.eq
  unfold l_check_sums
  simp [check_prime_ok A hp h2, sums_true A hw hl h, truB]
theorem check_sum_ok (A : Str → Addr) {p : Int} {w : Nat} {S : List (List Int)} {v : List Int} {s : Sto} (hw : 1 ≤ w ∧ w ≤ 10) (h : ∀ r ∈ S, IsSm p w r) (hv : IsSm p w v) : l_check_sum A [.int p, sumsD S, rowD v] s = .ok .non s := by
  apply RW.eq
  unfold l_check_sum
  simp [sum_true A hw hv, truB]
  cases S with
  | nil => simp
  | cons y S =>
    right
    simp [hv.1.len, (h y List.mem_cons_self).1.len]
/-- a row less another one so many times -/
def lessT (p : Int) (xs : List Int) (t : Int) (ys : List Int) : List Int := List.zipWith (fun a b => (a - t * b) % p) xs ys
theorem IsRow.less {p t : Int} {w : Nat} {xs ys : List Int} (hp : 0 < p) (h1 : IsRow p w xs) (h2 : IsRow p w ys) : IsRow p w (lessT p xs t ys) := by
  refine ⟨by simp [lessT, h1.len, h2.len], fun x hx => ?_⟩
  obtain ⟨a, b, _, _, rfl⟩ := mem_zw hx
  exact ⟨Int.emod_nonneg _ (by omega), Int.emod_lt_of_pos _ hp⟩
theorem less_spec (A : Str → Addr) {p t : Int} {s : Sto} {d e : D} {xs ys : List Int} (hp : 0 < p) (hd : SeqAt s d (xs.map .int)) (he : SeqAt s e (ys.map .int)) (hl : xs.length ≤ 1000000) (hy : ∀ y ∈ ys, -(2 ^ 64) < y ∧ y < 2 ^ 64) :
    l_less_times A [.int p, d, .int t, e] s = .ok (.loc s.length) (s ++ [.lst ((lessT p xs t ys).map .int)]) := by
  obtain ⟨g1, e1, k1⟩ := hd.src
  obtain ⟨g2, e2, k2⟩ := he.src
  have : RW (l_less_times A [.int p, d, .int t, e] s) fun y s' => s' = s ++ [.lst ((lessT p xs t ys).map .int)] ∧ y = .loc s.length := by
    unfold l_less_times
    simp [e1, e2]
    refine lc_zip2 (F := fun a b => (a - t * b) % p) ?_ ?_ ?_ ?_
    · exact guard_two.mpr ⟨k1, k2⟩
    · exact small24 hl
    · intro a ha b hb
      simp [wipeD]
      rw [gMul_r (hy b hb)]
      simp [hp]
    · simp [lessT]
  obtain ⟨y, s', e, rfl, rfl⟩ := this.get
  exact e
/-- the first place of a row that is not 0 -/
def fstNZ : Nat → List Int → Option Nat
  | _, [] => none
  | k, x :: xs => if x = 0 then fstNZ (k + 1) xs else some k
theorem fstNZ_none : ∀ {xs : List Int} {k : Nat}, fstNZ k xs = none ↔ ∀ x ∈ xs, x = 0
  | [], k => by simp [fstNZ]
  | x :: xs, k => by
    unfold fstNZ
    by_cases h : x = 0
    · simp [h, fstNZ_none (xs := xs)]
    · simp [h]
theorem fstNZ_some : ∀ {xs : List Int} {k q : Nat}, fstNZ k xs = some q → k ≤ q ∧ q < k + xs.length ∧ xs.getD (q - k) 0 ≠ 0 ∧ ∀ j, j < q - k → xs.getD j 0 = 0
  | [], k, q, e => by simp [fstNZ] at e
  | x :: xs, k, q, e => by
    unfold fstNZ at e
    by_cases h : x = 0
    · rw [if_pos h] at e
      obtain ⟨h1, h2, h3, h4⟩ := fstNZ_some e
      have hq : q - k = (q - (k + 1)) + 1 := by omega
      refine ⟨by omega, by simp; omega, by rw [hq]; simpa using h3, fun j hj => ?_⟩
      cases j with
      | zero => simpa using h
      | succ j => simpa using h4 j (by omega)
    · rw [if_neg h] at e
      cases e
      refine ⟨Nat.le_refl _, by simp, by simpa using h, fun j hj => by omega⟩
theorem head_places : ∀ (xs : List Int) (k : Nat), ((xs.zipIdx k).filter fun q => !decide (q.1 = 0)).head?.map (·.2) = fstNZ k xs
  | [], k => rfl
  | x :: xs, k => by
    unfold fstNZ
    simp only [List.zipIdx_cons, List.filter_cons]
    by_cases h : x = 0
    · rw [if_pos h, ← head_places xs (k + 1)]
      simp [h]
    · simp [h]
theorem place_spec (A : Str → Addr) {s : Sto} {d : D} {xs : List Int} (hd : SeqAt s d (xs.map .int)) (hl : xs.length ≤ 1000000) :
    RW (l_first_place A [d] s) fun v s' => Pre s s' ∧ v = (match fstNZ 0 xs with | none => .non | some q => .int q) := by
  obtain ⟨g1, e1, k1⟩ := hd.src
  unfold l_first_place
  simp [e1]
  refine lc_enum (f := fun x i => .int i) (b := fun x i => !decide (x = 0)) ?_ ?_ ?_ ?_
  · exact k1
  · exact small24 hl
  · intro x i hx
    simp [wipeD]
    exact Decidable.em _
  · have hh := head_places xs 0
    generalize (xs.zipIdx.filter fun q => !decide (q.1 = 0)) = ps at hh
    cases ps with
    | nil =>
      simp at hh
      rw [← hh]
      simp
      exact Pre.refl.push
    | cons q ps =>
      simp at hh
      rw [← hh]
      simp
      exact Pre.refl.push
theorem inverse_spec (A : Str → Addr) {p v : Int} {s : Sto} (hp : Pr p) (h2 : p ≤ 1000) (hv : 0 < v ∧ v < p) : RW (l_inverse A [.int p, .int v] s) fun d s' => Pre s s' ∧ ∃ b, d = .int b ∧ 0 < b ∧ b < p ∧ b * v % p = 1 := by
  have hp1 := hp.two
  unfold l_inverse
  simp
  refine ⟨by omega, ?_⟩
  refine lc_range (f := fun i => .int (1 + (i : Int))) (b := fun i => decide ((1 + (i : Int)) * v % p = 1)) ?_ ?_ ?_ ?_
  · simp
  · exact small24 (by omega)
  · intro i hi
    have hb : -(2 ^ 64) < v ∧ v < 2 ^ 64 := by omega
    have hp0 : 0 < p := by omega
    simp [wipeD]
    rw [gMul_r hb]
    simp [hp0]
    omega
  · obtain ⟨b, hb⟩ := hp.inv (a := v) (fun hd => by
      have := Int.le_of_dvd hv.1 hd
      omega)
    have hb1 : v * (b % p) % p = 1 := by
      obtain ⟨k, hk⟩ := hb
      have e := Int.emod_add_mul_ediv b p
      have : v * (b % p) = 1 + p * (k - v * (b / p)) := by grind
      rw [this, Int.add_mul_emod_self_left]
      exact Int.emod_eq_of_lt (by omega) (by omega)
    have hr0 := Int.emod_nonneg b (show p ≠ 0 by omega)
    have hr1 := Int.emod_lt_of_pos b (show 0 < p by omega)
    have hr2 : b % p ≠ 0 := fun e => by rw [e] at hb1; simp at hb1
    have hne : (List.range (p.toNat - 1)).filter (fun (i : Nat) => decide ((1 + (i : Int)) * v % p = 1)) ≠ [] := by
      intro e
      have hm : (b % p - 1).toNat ∈ (List.range (p.toNat - 1)).filter (fun (i : Nat) => decide ((1 + (i : Int)) * v % p = 1)) := by
        rw [List.mem_filter]
        refine ⟨by simp; omega, ?_⟩
        have : (1 + ((b % p - 1).toNat : Int)) = b % p := by omega
        rw [this, Int.mul_comm]
        simpa using hb1
      rw [e] at hm
      cases hm
    generalize hps : (List.range (p.toNat - 1)).filter (fun (i : Nat) => decide ((1 + (i : Int)) * v % p = 1)) = ps at hne
    cases ps with
    | nil => exact absurd rfl hne
    | cons i ps =>
      have hi : i ∈ (List.range (p.toNat - 1)).filter (fun (i : Nat) => decide ((1 + (i : Int)) * v % p = 1)) := by rw [hps]; exact List.mem_cons_self
      rw [List.mem_filter] at hi
      simp at hi
      simp
      exact ⟨Pre.refl.push, by omega, by omega, hi.2⟩
end DL
end
/-! ### P8 -/
section
set_option linter.all false
set_option maxRecDepth 100000
/-! P8: dicts of whole numbers; the inner loop of Steps. -/
namespace DL
open PySem PySem.Spec L2
open PyProof.Rows hiding St
open LA
abbrev mdD (M : List (Int × Int)) : List (Key × D) := M.map fun kx => (.inl kx.1, .int kx.2)
abbrev keysM (M : List (Int × Int)) : List Int := M.map (·.1)
/-- the value at a name, 0 where there is none -/
def co : List (Int × Int) → Int → Int
  | [], _ => 0
  | (k, x) :: M, i => if k = i then x else co M i
def putM (M : List (Int × Int)) (k x : Int) : List (Int × Int) := if k ∈ keysM M then M.map (fun kx => if kx.1 = k then (kx.1, x) else kx) else M ++ [(k, x)]
theorem co_none : ∀ {M : List (Int × Int)} {i : Int}, i ∉ keysM M → co M i = 0
  | [], _, _ => rfl
  | (k, x) :: M, i, h => by
    simp at h
    have h1 : ¬ k = i := fun e => h.1 e.symm
    simp only [co, if_neg h1]
    exact co_none (by simpa using h.2)
theorem dGet_md : ∀ (M : List (Int × Int)) (k : Int), (dGet (mdD M) (.inl k)).getD (.int 0) = .int (co M k)
  | [], k => rfl
  | (k', x) :: M, k => by
    have ih := dGet_md M k
    unfold dGet at ih ⊢
    by_cases h : k' = k
    · simp [co, h]
    · simp [co, h] at ih ⊢
      exact ih
theorem dGet_in : ∀ {M : List (Int × Int)} {k : Int}, k ∈ keysM M → dGet (mdD M) (.inl k) = some (.int (co M k))
  | [], k, h => by simp at h
  | (k', x) :: M, k, h => by
    by_cases e : k' = k
    · simp [dGet, co, e]
    · have hk : k ∈ keysM M := by
        simp at h ⊢
        rcases h with h | h
        · exact absurd h.symm e
        · exact h
      have ih := dGet_in hk
      unfold dGet at ih ⊢
      simp [co, e] at ih ⊢
      exact ih
theorem dPut_md (M : List (Int × Int)) (k x : Int) : dPut (mdD M) (.inl k) (.int x) = mdD (putM M k x) := by
  unfold dPut putM
  have e : ((mdD M).any fun kv => decide (kv.1 = .inl k)) = true ↔ k ∈ keysM M := by
    simp
  by_cases h : k ∈ keysM M
  · rw [if_pos (e.mpr h), if_pos h]
    simp only [List.map_map]
    apply List.map_congr_left
    intro kx hx
    by_cases h1 : kx.1 = k <;> simp [Function.comp, h1]
  · rw [if_neg (fun h2 => h (e.mp h2)), if_neg h]
    simp
theorem keys_put {M : List (Int × Int)} {k x : Int} : keysM (putM M k x) = if k ∈ keysM M then keysM M else keysM M ++ [k] := by
  unfold putM
  split
  · show List.map Prod.fst (List.map _ M) = List.map Prod.fst M
    rw [List.map_map]
    apply List.map_congr_left
    intro kx _
    by_cases h1 : kx.1 = k <;> simp [Function.comp, h1]
  · simp
theorem nodup_put {M : List (Int × Int)} {k x : Int} (h : (keysM M).Nodup) : (keysM (putM M k x)).Nodup := by
  rw [keys_put]
  split
  · exact h
  · rename_i hk
    exact List.nodup_append.mpr ⟨h, by simp, fun a ha b hb e => by simp at hb; subst hb; subst e; exact hk ha⟩
theorem co_app : ∀ {M : List (Int × Int)} {k x i : Int}, k ∉ keysM M → co (M ++ [(k, x)]) i = if k = i then x else co M i
  | [], k, x, i, _ => rfl
  | (k', x') :: M, k, x, i, h => by
    simp at h
    simp only [List.cons_append, co]
    rw [co_app (by simpa using h.2)]
    by_cases h1 : k' = i
    · have h2 : ¬ k = i := fun e => h.1 (by rw [e, h1])
      simp [h1, h2]
    · simp [h1]
theorem co_map : ∀ {M : List (Int × Int)} {k x i : Int}, k ∈ keysM M → co (M.map (fun kx => if kx.1 = k then (kx.1, x) else kx)) i = if k = i then x else co M i
  | [], k, x, i, h => by simp at h
  | (k', x') :: M, k, x, i, h => by
    by_cases h1 : k' = k
    · subst h1
      by_cases h2 : k' = i
      · simp [co, h2]
      · simp only [List.map_cons, if_true, co, if_neg h2]
        by_cases h3 : k' ∈ keysM M
        · rw [co_map h3, if_neg h2]
        · have e : M.map (fun kx => if kx.1 = k' then (kx.1, x) else kx) = M := by
            have : M.map (fun kx => if kx.1 = k' then (kx.1, x) else kx) = M.map id := by
              apply List.map_congr_left
              intro kx hx
              rw [if_neg (fun e => h3 (by rw [← e]; exact List.mem_map.mpr ⟨kx, hx, rfl⟩))]
              rfl
            rw [this, List.map_id]
          rw [e]
    · have hk : k ∈ keysM M := by
        simp at h ⊢
        rcases h with h | h
        · exact absurd h.symm h1
        · exact h
      simp only [List.map_cons, if_neg h1, co]
      rw [co_map hk]
      by_cases h2 : k' = i
      · have h3 : ¬ k = i := fun e => h1 (by rw [h2, e])
        simp [h2, h3]
      · simp [h2]
theorem co_put {M : List (Int × Int)} {k x i : Int} : co (putM M k x) i = if k = i then x else co M i := by
  unfold putM
  split
  · rename_i h; exact co_map h
  · rename_i h; exact co_app h
theorem co_take {P : List (Int × Int)} {j : Nat} {k x i : Int} (hn : (keysM P).Nodup) (h : P[j]? = some (k, x)) : co (P.take (j + 1)) i = if k = i then x else co (P.take j) i := by
  have hl : j < P.length := (List.getElem?_eq_some_iff.mp h).1
  have e : P.take (j + 1) = P.take j ++ [(k, x)] := by
    rw [List.take_succ, h]; rfl
  rw [e]
  refine co_app fun hk => ?_
  have hn2 : (keysM (P.take (j + 1))).Nodup := by
    have : keysM (P.take (j + 1)) = (keysM P).take (j + 1) := by simp
    rw [this]
    exact hn.sublist (List.take_sublist _ _)
  rw [e] at hn2
  simp only [List.map_append, List.map_cons, List.map_nil] at hn2
  exact (List.nodup_append.mp hn2).2.2 k hk k (by simp) rfl
theorem co_at {P : List (Int × Int)} {j : Nat} {k x : Int} (hn : (keysM P).Nodup) (h : P[j]? = some (k, x)) : co P k = x := by
  induction P generalizing j with
  | nil => simp at h
  | cons y P ih =>
    obtain ⟨k', x'⟩ := y
    cases j with
    | zero => simp at h; simp [co, h]
    | succ j =>
      simp at h hn
      have hk : k ∈ keysM P := List.mem_map.mpr ⟨(k, x), List.mem_of_getElem? h, rfl⟩
      have h1 : ¬ k' = k := fun e => by
        subst e
        obtain ⟨y, hy, e⟩ := List.mem_map.mp hk
        exact hn.1 y.2 (by rw [← e]; exact hy)
      simp only [co, if_neg h1]
      exact ih (by simpa using hn.2) h
theorem gIx_md {s : Sto} {n : Nat} {P : List (Int × Int)} {k : Int} (h : s[n]? = some (.lok (mdD P))) (hk : k ∈ keysM P) : gIx (.loc n) (.int k) s = some (.int (co P k), s) := by
  rw [gIx_lok h]
  simp only [keyD, Option.bind_some, dGet_in hk, Option.map_some]
theorem gIx_md' {s : Sto} {n : Nat} {P : List (Int × Int)} {k : Int} (h : s[n]? = some (.dct (mdD P))) (hk : k ∈ keysM P) : gIx (.loc n) (.int k) s = some (.int (co P k), s) := by
  rw [gIx_dct h]
  simp only [keyD, Option.bind_some, dGet_in hk, Option.map_some]
theorem gSet_md {s : Sto} {n : Nat} {M : List (Int × Int)} {k x : Int} (h : s[n]? = some (.dct (mdD M))) (hl : M.length < 1000000) : gSet (.loc n) (.int k) (.int x) s = some (s.set n (.dct (mdD (putM M k x)))) := by
  simp only [gSet, h, keyD, Option.bind_some, List.length_map]
  rw [if_pos (small24' (by omega)), dPut_md]
theorem len_put {M : List (Int × Int)} {k x : Int} : (putM M k x).length ≤ M.length + 1 := by
  unfold putM
  split <;> simp
/-- in the midst of it -/
def LDIn (r : Env) (n : Nat) (s : Sto) (pm m : Nat) (P M : List (Int × Int)) (p times : Int) (j : Nat) (r1 : Env) (s1 : Sto) : Prop :=
  ∃ (v : Option D) (M1 : List (Int × Int)), r1 = r.set n v ∧ s1 = (s.set pm (.lok (mdD P))).set m (.dct (mdD M1)) ∧ (keysM M1).Nodup ∧ (∀ i, p ∣ co M1 i - (co M i - times * co (P.take j) i)) ∧ (∀ i ∈ keysM M1, i ∈ keysM M ∨ i ∈ keysM P) ∧ M1.length ≤ M.length + j
/-- for name in c: a[name] = (a.get(name, 0) - b * c[name]) % self.kept_prime -/
theorem less_dict (A : Str → Addr) {a b c n k m pm dl : Nat} {p times : Int} {P M : List (Int × Int)} {r : Env} {s : Sto} {rest : List (Str × D)} {Qb Qc : Env → Sto → Prop} {Qr : D → Sto → Prop} {Qn : Env → Sto → Prop}
    (hp : 0 < p) (ht : -(2 ^ 64) < times ∧ times < 2 ^ 64) (h0 : r[0]? = some (some (.loc k))) (ha : r[a]? = some (some (.loc m))) (hb : r[b]? = some (some (.int times))) (hc : r[c]? = some (some (.loc pm)))
    (n0 : n ≠ 0) (na : n ≠ a) (nb : n ≠ b) (nc : n ≠ c) (hn : n < r.length) (hk : s[k]? = some (.ins (A "Steps") (("kept_prime", .int p) :: rest))) (hm : s[m]? = some (.dct (mdD M))) (hpm : s[pm]? = some (.dct (mdD P))) (hne : m ≠ pm) (hP : (keysM P).Nodup) (hM : (keysM M).Nodup) (hl : M.length + P.length < 1000000)
    (q : ∀ (v : Option D) (M' : List (Int × Int)), (keysM M').Nodup → (∀ i, p ∣ co M' i - (co M i - times * co P i)) → (∀ i ∈ keysM M', i ∈ keysM M ∨ i ∈ keysM P) → M'.length ≤ M.length + P.length → Qn (r.set n v) (s.set m (.dct (mdD M')))) :
    SW (mLockS (mVar c) (mFor (mKeys (mVar c)) (mgName n) (mSetIx (mBin gMod (mBin gSub (mGet2 (mVar a) (mVar n) (mC (.int 0))) (mBin gMul (mVar b) (mBin gIx (mVar c) (mVar n)))) (mFld [A "Steps"] "kept_prime" (mVar 0))) (mVar a) (mVar n))) r s) Qn Qr Qb Qc := by
  have hla : lockAt (mVar c) r s = some (pm, mdD P) := by simp [lockAt, mVar, hc, hpm]
  have hkpm : k ≠ pm := fun e => by rw [e, hpm] at hk; cases hk
  have hkm : k ≠ m := fun e => by rw [e, hm] at hk; cases hk
  refine SW_lock hla ?_
  have s0m : (s.set pm (.lok (mdD P)))[m]? = some (.dct (mdD M)) := by rw [set_other (Ne.symm hne)]; exact hm
  simp [hc, set_same hpm]
  refine SW_forGo (LDIn r n s pm m P M p times) ?_ ?_ ?_ ?_
  · refine ⟨r[n], M, ?_, ?_, hM, fun i => ⟨0, by simp [co]⟩, fun i hi => .inl hi, by omega⟩
    · rw [List.set_getElem_self]
    · rw [← List.getElem_of_getElem? s0m |>.choose_spec, List.set_getElem_self]
  · rintro i r1 s1 _ ⟨v, M1, rfl, rfl, _⟩
    simp [List.getElem?_set_ne hne, set_same hpm]
  · rintro j d r1 s1 hd ⟨v, M1, rfl, rfl, hn1, hco, hks, hlen⟩
    obtain ⟨kk, xx, hPj, rfl⟩ : ∃ kk xx, P[j]? = some (kk, xx) ∧ d = .int kk := by
      simp only [List.map_map, List.getElem?_map, Option.map_eq_some_iff] at hd
      obtain ⟨⟨kk, xx⟩, h1, h2⟩ := hd
      exact ⟨kk, xx, h1, h2.symm⟩
    have hj : j < P.length := (List.getElem?_eq_some_iff.mp hPj).1
    have hkk : kk ∈ keysM P := List.mem_map.mpr ⟨_, List.mem_of_getElem? hPj, rfl⟩
    have hxx := co_at hP hPj
    have eo : ∀ i, i ≠ n → ((r.set n v).set n (some (.int kk)))[i]? = r[i]? := fun i hi => by rw [List.getElem?_set_ne (Ne.symm hi), List.getElem?_set_ne (Ne.symm hi)]
    have en : ((r.set n v).set n (some (.int kk)))[n]? = some (some (.int kk)) := by rw [List.getElem?_set_self (by simpa using hn)]
    have e2 : (r.set n v).set n (some (.int kk)) = r.set n (some (.int kk)) := by simp
    have em : ((s.set pm (.lok (mdD P))).set m (.dct (mdD M1)))[m]? = some (.dct (mdD M1)) := set_same s0m
    have epm : ((s.set pm (.lok (mdD P))).set m (.dct (mdD M1)))[pm]? = some (.lok (mdD P)) := by rw [set_other hne]; exact set_same hpm
    have ek : ((s.set pm (.lok (mdD P))).set m (.dct (mdD M1)))[k]? = some (.ins (A "Steps") (("kept_prime", .int p) :: rest)) := by rw [set_other (Ne.symm hkm), set_other (Ne.symm hkpm)]; exact hk
    generalize hs1 : (s.set pm (.lok (mdD P))).set m (.dct (mdD M1)) = s1 at em epm ek
    rw [RW_gName, SW_setIx]
    generalize hr1 : (r.set n v).set n (some (.int kk)) = r1 at eo en e2
    have ha1 := (eo a (Ne.symm na)).trans ha
    have hb1 := (eo b (Ne.symm nb)).trans hb
    have hc1 := (eo c (Ne.symm nc)).trans hc
    have h01 := (eo 0 (Ne.symm n0)).trans h0
    have hlk : List.lookup ("kept_prime" : Str) (("kept_prime", D.int p) :: rest) = some (D.int p) := by simp
    have hkv : kvsOf s1 m = some (mdD M1) := by simp [kvsOf, em]
    simp [ha1, hb1, hc1, h01, en, hkv, keyD, dGet_md, gIx_md epm hkk]
    rw [gMul_l (by simpa using ht)]
    simp [ek, hp]
    refine ⟨_, gSet_md em (by omega), ⟨some (.int kk), putM M1 kk ((co M1 kk - times * co P kk) % p), e2, ?_, nodup_put hn1, fun i => ?_, fun i hi => ?_, ?_⟩⟩
    · rw [← hs1]; simp
    · rw [co_put, co_take hP hPj]
      by_cases h : kk = i
      · subst h
        simp only [if_true]
        have h1 := hco kk
        have h2 : co (P.take j) kk = 0 := co_none fun hm => by
          have hd2 : (keysM (P.take j ++ [(kk, xx)])).Nodup := by
            have e : P.take j ++ [(kk, xx)] = P.take (j + 1) := by rw [List.take_succ, hPj]; rfl
            rw [e]
            have : keysM (P.take (j + 1)) = (keysM P).take (j + 1) := by simp
            rw [this]
            exact hP.sublist (List.take_sublist _ _)
          simp only [List.map_append, List.map_cons, List.map_nil] at hd2
          exact (List.nodup_append.mp hd2).2.2 kk hm kk (by simp) rfl
        rw [h2] at h1
        have h3 := Int.emod_add_mul_ediv (co M1 kk - times * co P kk) p
        rw [hxx] at h3 ⊢
        exact dvd2 1 (-((co M1 kk - times * xx) / p)) h1 (Int.dvd_refl p) (by grind)
      · rw [if_neg h, if_neg h]
        exact hco i
    · rw [keys_put] at hi
      split at hi
      · exact hks i hi
      · rcases List.mem_append.mp hi with hi | hi
        · exact hks i hi
        · simp at hi; subst hi; exact .inr hkk
    · have := len_put (M := M1) (k := kk) (x := (co M1 kk - times * co P kk) % p)
      omega
  · rintro r1 s1 ⟨v, M1, rfl, rfl, hn1, hco, hks, hlen⟩
    simp only [List.length_map] at hco hlen
    have epm : ((s.set pm (.lok (mdD P))).set m (.dct (mdD M1)))[pm]? = some (.lok (mdD P)) := by rw [set_other hne]; exact set_same hpm
    refine ⟨_, epm, ?_⟩
    have e : ((s.set pm (.lok (mdD P))).set m (.dct (mdD M1))).set pm (.dct (mdD P)) = s.set m (.dct (mdD M1)) := by
      apply List.ext_getElem?
      intro i
      by_cases h1 : pm = i
      · subst h1
        rw [set_same epm, set_other hne]
        exact hpm.symm
      · rw [set_other h1]
        by_cases h2 : m = i
        · subst h2
          rw [set_same s0m, set_same hm]
        · rw [set_other h2, set_other h1, set_other h2]
    rw [e]
    rw [List.take_length] at hco
    exact q v M1 hn1 hco hks hlen
end DL
end
/-! ### P9 -/
section
set_option linter.all false
set_option maxRecDepth 100000
/-! P9: Steps.fallen. -/
namespace DL
open PySem PySem.Spec L2
open PyProof.Rows hiding St
open LA
/-- what Steps keeps of a place: the row, by which values it is made; where both stand -/
structure En where
  q : Nat
  l : Nat
  m : Nat
  L : List Int
  M : List (Int × Int)
abbrev kvD (E : List En) : List (Key × D) := E.map fun e => (.inl (e.q : Int), .tup [.loc e.l, .loc e.m])
def EnAt (s : Sto) (e : En) : Prop := s[e.l]? = some (.lst (e.L.map .int)) ∧ s[e.m]? = some (.dct (mdD e.M))
structure StAt (A : Str → Addr) (s : Sto) (k : Nat) (p : Int) (E : List En) : Prop where
  ob : ∃ dl, s[k]? = some (.ins (A "Steps") [("kept_prime", .int p), ("kept_rows", .loc dl)]) ∧ s[dl]? = some (.dct (kvD E))
  en : ∀ e ∈ E, EnAt s e
theorem EnAt.pre {s s1 : Sto} {e : En} (h : EnAt s e) (a : Pre s s1) : EnAt s1 e := ⟨a.get h.1, a.get h.2⟩
theorem StAt.pre {A : Str → Addr} {s s1 : Sto} {k : Nat} {p : Int} {E : List En} (h : StAt A s k p E) (a : Pre s s1) : StAt A s1 k p E := by
  obtain ⟨⟨dl, h1, h2⟩, h3⟩ := h
  exact ⟨⟨dl, a.get h1, a.get h2⟩, fun e he => (h3 e he).pre a⟩
/-- the rows kept: each 1 at its place, where all others are 0 -/
structure RR (p : Int) (w : Nat) (E : List En) : Prop where
  few : E.length < 64
  nd : (E.map (·.q)).Nodup
  row : ∀ e ∈ E, IsRow p w e.L
  lt : ∀ e ∈ E, e.q < w
  one : ∀ e ∈ E, p ∣ e.L.getD e.q 0 - 1
  off : ∀ e ∈ E, ∀ e' ∈ E, e.q ≠ e'.q → p ∣ e'.L.getD e.q 0
  keys : ∀ e ∈ E, (keysM e.M).Nodup
  short : ∀ e ∈ E, e.M.length ≤ 100
  low : ∀ e ∈ E, ∀ j, j < e.q → p ∣ e.L.getD j 0
def sumE : List En → (En → Int) → Int
  | [], _ => 0
  | e :: E, f => f e + sumE E f
theorem sumE_congr {E : List En} {f g : En → Int} (h : ∀ e ∈ E, f e = g e) : sumE E f = sumE E g := by
  induction E with
  | nil => rfl
  | cons e E ih =>
    simp only [sumE]
    rw [h e List.mem_cons_self, ih fun x hx => h x (List.mem_cons_of_mem _ hx)]
theorem sumE_zero {E : List En} {f : En → Int} (h : ∀ e ∈ E, f e = 0) : sumE E f = 0 := by
  induction E with
  | nil => rfl
  | cons e E ih =>
    simp only [sumE]
    rw [h e List.mem_cons_self, ih fun x hx => h x (List.mem_cons_of_mem _ hx)]
    rfl
/-- one value more -/
theorem sumE_put {E : List En} {t : Nat → Int} {f : En → Int} {e0 : En} {c : Int} (hn : (E.map (·.q)).Nodup) (h : e0 ∈ E) (ht : t e0.q = 0) : sumE E (fun e => (if e.q = e0.q then c else t e.q) * f e) = sumE E (fun e => t e.q * f e) + c * f e0 := by
  induction E with
  | nil => cases h
  | cons e E ih =>
    simp only [sumE]
    simp only [List.map_cons, List.nodup_cons] at hn
    rcases List.mem_cons.mp h with rfl | h
    · rw [if_pos rfl, ht]
      rw [sumE_congr (f := fun e => (if e.q = e0.q then c else t e.q) * f e) (g := fun e => t e.q * f e) fun e he => by
        rw [if_neg fun q => hn.1 (by rw [← q]; exact List.mem_map.mpr ⟨e, he, rfl⟩)]]
      grind
    · rw [if_neg fun q => hn.1 (by rw [q]; exact List.mem_map.mpr ⟨e0, h, rfl⟩), ih hn.2 h]
      grind
/-- the result of fallen: left of the row, and how it is made -/
def Fallen (p : Int) (w : Nat) (E : List En) (xs ys : List Int) (M M' : List (Int × Int)) : Prop :=
  IsRow p w ys ∧ (∀ e ∈ E, p ∣ ys.getD e.q 0) ∧ (keysM M').Nodup ∧ M'.length ≤ M.length + 6400 ∧ (∀ i ∈ keysM M', i ∈ keysM M ∨ ∃ e ∈ E, i ∈ keysM e.M) ∧
  ∃ t : Nat → Int, (∀ j, j < w → p ∣ ys.getD j 0 - (xs.getD j 0 - sumE E fun e => t e.q * e.L.getD j 0)) ∧ ∀ i, p ∣ co M' i - (co M i - sumE E fun e => t e.q * co e.M i)
theorem getD_zw {f : Int → Int → Int} {xs ys : List Int} {j : Nat} (h1 : j < xs.length) (h2 : j < ys.length) : (List.zipWith f xs ys).getD j 0 = f (xs.getD j 0) (ys.getD j 0) := by
  simp [List.getD_eq_getElem?_getD, List.getElem?_zipWith, List.getElem?_eq_getElem h1, List.getElem?_eq_getElem h2]
theorem less_at {p t : Int} {w : Nat} {xs ys : List Int} (h1 : IsRow p w xs) (h2 : IsRow p w ys) {j : Nat} (hj : j < w) : p ∣ (lessT p xs t ys).getD j 0 - (xs.getD j 0 - t * ys.getD j 0) := by
  unfold lessT
  rw [getD_zw (by rw [h1.len]; exact hj) (by rw [h2.len]; exact hj)]
  have := Int.emod_add_mul_ediv (xs.getD j 0 - t * ys.getD j 0) p
  exact ⟨-((xs.getD j 0 - t * ys.getD j 0) / p), by grind⟩
theorem IsRow.at {p : Int} {w : Nat} {xs : List Int} (h : IsRow p w xs) {j : Nat} (hj : j < w) : 0 ≤ xs.getD j 0 ∧ xs.getD j 0 < p := by
  have hl : j < xs.length := by rw [h.len]; exact hj
  have : xs.getD j 0 = xs[j] := by simp [List.getD_eq_getElem?_getD, List.getElem?_eq_getElem hl]
  rw [this]
  exact h.bd _ (List.getElem_mem hl)
theorem IsRow.small' {p : Int} {w : Nat} {ns : List Int} (h : IsRow p w ns) (hp : p ≤ 1000) : ∀ x ∈ ns, -(2 ^ 64) < x ∧ x < 2 ^ 64 := fun x hx => by
  have := h.bd x hx
  omega
theorem at_row {xs : List Int} {w : Nat} (hl : xs.length = w) {j : Nat} (hj : j < w) : atI (xs.map D.int) (j : Int) = some (.int (xs.getD j 0)) := by
  refine L2.atI_nat ?_
  rw [List.getElem?_map, List.getElem?_eq_getElem (by omega)]
  simp [List.getD_eq_getElem?_getD, List.getElem?_eq_getElem (show j < xs.length by omega)]
theorem intKeys_kv (E : List En) : intKeys (kvD E) = some (E.map fun e => (e.q : Int)) := by
  induction E with
  | nil => rfl
  | cons e E ih => simp [intKeys, ih]
theorem gSrt_kv {s : Sto} {n : Nat} {E : List En} (h : s[n]? = some (.dct (kvD E))) (hf : E.length < 64) : gSrt [.loc n] s = some ((isort (E.map fun e => (e.q : Int))).map .int) := by
  simp [gSrt, gSorted, h, intKeys_kv, hf]
theorem dGet_kv {E : List En} {e : En} (hn : (E.map (·.q)).Nodup) (h : e ∈ E) : dGet (kvD E) (.inl (e.q : Int)) = some (.tup [.loc e.l, .loc e.m]) := by
  induction E with
  | nil => cases h
  | cons x E ih =>
    simp only [List.map_cons, List.nodup_cons] at hn
    rcases List.mem_cons.mp h with rfl | h
    · simp [dGet]
    · have hne : ¬ x.q = e.q := fun q => hn.1 (by rw [q]; exact List.mem_map.mpr ⟨e, h, rfl⟩)
      have hne2 : ¬ (x.q : Int) = (e.q : Int) := by omega
      have := ih hn.2 h
      unfold dGet at this ⊢
      simpa [hne2] using this
/-- in the midst of fallen, behind i places -/
def FIn (A : Str → Addr) (s0 : Sto) (k : Nat) (p : Int) (w : Nat) (E : List En) (Qs : List Int) (xs : List Int) (M : List (Int × Int)) (i : Nat) (r : Env) (s : Sto) : Prop :=
  ∃ (l m : Nat) (ys : List Int) (M' : List (Int × Int)) (t : Nat → Int) (v3 v4 v5 v6 v7 : Option D), r = [some (.loc k), some (.loc l), some (.loc m), v3, v4, v5, v6, v7] ∧ Pre s0 s ∧ s0.length ≤ l ∧ s0.length ≤ m ∧ l ≠ m ∧
    (s[s0.length + 2]? = some (.lst (Qs.map .int)) ∧ l ≠ s0.length + 2 ∧ m ≠ s0.length + 2) ∧
    s[l]? = some (.lst (ys.map .int)) ∧ s[m]? = some (.dct (mdD M')) ∧ IsRow p w ys ∧ (∀ e ∈ E, (e.q : Int) ∈ Qs.take i → p ∣ ys.getD e.q 0) ∧ (∀ e ∈ E, (e.q : Int) ∉ Qs.take i → t e.q = 0) ∧
    (keysM M').Nodup ∧ M'.length ≤ M.length + 100 * i ∧ (∀ x ∈ keysM M', x ∈ keysM M ∨ ∃ e ∈ E, x ∈ keysM e.M) ∧
    (∀ j, j < w → p ∣ ys.getD j 0 - (xs.getD j 0 - sumE E fun e => t e.q * e.L.getD j 0)) ∧ ∀ x, p ∣ co M' x - (co M x - sumE E fun e => t e.q * co e.M x)
theorem fallen_spec (A : Str → Addr) {s : Sto} {k md w : Nat} {p : Int} {E : List En} {d : D} {xs : List Int} {M : List (Int × Int)} (hp : 0 < p ∧ p ≤ 1000) (hw : w ≤ 1000) (hst : StAt A s k p E) (hr : RR p w E) (hd : SeqAt s d (xs.map .int)) (hx : IsRow p w xs)
    (hm : s[md]? = some (.dct (mdD M))) (hM : (keysM M).Nodup) (hl : M.length ≤ 100) :
    RW (l_Steps_fallen A [.loc k, d, .loc md] s) fun v s' => Pre s s' ∧ ∃ l m ys M', v = .tup [.loc l, .loc m] ∧ s.length ≤ l ∧ s.length ≤ m ∧ l ≠ m ∧ s'[l]? = some (.lst (ys.map .int)) ∧ s'[m]? = some (.dct (mdD M')) ∧ Fallen p w E xs ys M M' := by
  obtain ⟨⟨dl, hk, hdl⟩, hen⟩ := id hst
  unfold l_Steps_fallen
  rw [RW_def]
  refine ⟨rfl, ?_⟩
  have hgl : ∃ us, gList [d] s = some us ∧ us = xs.map .int := by
    rcases hd with rfl | ⟨n, rfl, h⟩
    · exact ⟨_, rfl, rfl⟩
    · exact ⟨_, by simp [gList, h], rfl⟩
  obtain ⟨_, hgl, rfl⟩ := hgl
  have p1 : Pre s (s ++ [Ob.lst (xs.map .int)]) := Pre.refl.push
  have hkv : kvsOf (s ++ [Ob.lst (xs.map .int)]) md = some (mdD M) := by simp [kvsOf, p1.get hm]
  simp [hgl, hkv]
  have p2 : Pre s (s ++ [Ob.lst (xs.map .int), Ob.dct (mdD M)]) := Pre.refl.push
  have p3 : Pre s (s ++ [Ob.lst (xs.map .int), Ob.dct (mdD M), Ob.lst ((isort (E.map fun e => (e.q : Int))).map .int)]) := Pre.refl.push
  have hlkr : List.lookup ("kept_rows" : Str) [(("kept_prime" : Str), D.int p), ("kept_rows", .loc dl)] = some (.loc dl) := by
    have h : (("kept_rows" : Str) == ("kept_prime" : Str)) = false := by decide +kernel
    simp [List.lookup, h]
  have hlkp : List.lookup ("kept_prime" : Str) [(("kept_prime" : Str), D.int p), ("kept_rows", .loc dl)] = some (.int p) := by simp
  refine ⟨_, _, p2.get hk, rfl, _, hlkr, _, gSrt_kv (p2.get hdl) hr.few, ?_⟩
  have hQp : (isort (E.map fun e => (e.q : Int))).Perm (E.map fun e => (e.q : Int)) := isort_perm _
  have hQn : (isort (E.map fun e => (e.q : Int))).Nodup := by
    refine hQp.nodup_iff.mpr ?_
    have : E.map (fun e => (e.q : Int)) = (E.map (·.q)).map fun (n : Nat) => (n : Int) := by rw [List.map_map]; rfl
    rw [this]
    exact map_nodup hr.nd fun x _ y _ h => by omega
  have hQm : ∀ x, x ∈ isort (E.map fun e => (e.q : Int)) ↔ ∃ e ∈ E, (e.q : Int) = x := fun x => by
    rw [hQp.mem_iff]
    simp
  have hQl : (isort (E.map fun e => (e.q : Int))).length < 64 := by rw [hQp.length_eq]; simpa using hr.few
  generalize isort (E.map fun e => (e.q : Int)) = Qs at *
  have lk := len_of hk
  refine SW_forGo (FIn A s k p w E Qs xs M) ?_ ?_ ?_ ?_
  · refine ⟨s.length, s.length + 1, xs, M, fun _ => 0, none, none, none, none, none, rfl, p3, by omega, by omega, by omega, ⟨?_, by omega, by omega⟩, ?_, ?_, hx, by simp, by simp, hM, by omega, fun i hi => .inl hi, fun j hj => ⟨0, ?_⟩, fun i => ⟨0, ?_⟩⟩
    · rw [List.getElem?_append_right (by omega)]; simp
    · rw [List.getElem?_append_right (by omega)]; simp
    · rw [List.getElem?_append_right (by omega)]; simp
    · rw [sumE_zero fun e _ => by simp]; grind
    · rw [sumE_zero fun e _ => by simp]; grind
  · rintro i r1 s1 _ ⟨l, m, ys, M', t, v3, v4, v5, v6, v7, rfl, hpre, hl0, hm0, hlm, ⟨hg, _, _⟩, _⟩
    simpa using hg
  · rintro i dd r1 s1 hdd ⟨l, m, ys, M', t, v3, v4, v5, v6, v7, rfl, hpre, hl0, hm0, hlm, ⟨hg, hlg, hmg⟩, el, em, hrow, hvan, ht0, hnd, hlen, hks, hj, hi⟩
    obtain ⟨z, hz, rfl⟩ : ∃ z, Qs[i]? = some z ∧ dd = .int z := by
      rw [List.getElem?_map, Option.map_eq_some_iff] at hdd
      obtain ⟨z, h1, h2⟩ := hdd
      exact ⟨z, h1, h2.symm⟩
    have hiq : i < Qs.length := (List.getElem?_eq_some_iff.mp hz).1
    obtain ⟨e0, he0, rfl⟩ := (hQm z).mp (List.mem_of_getElem? hz)
    have htk : Qs.take (i + 1) = Qs.take i ++ [(e0.q : Int)] := by rw [List.take_succ, hz]; rfl
    have hnt : (e0.q : Int) ∉ Qs.take i := fun hm2 => by
      have h1 : (Qs.take (i + 1)).Nodup := hQn.sublist (List.take_sublist _ _)
      rw [htk] at h1
      exact (List.nodup_append.mp h1).2.2 _ hm2 _ (by simp) rfl
    have hmem : ∀ e ∈ E, (e.q : Int) ∈ Qs.take (i + 1) → (e.q : Int) ∈ Qs.take i ∨ e.q = e0.q := fun e _ h => by
      rw [htk] at h
      rcases List.mem_append.mp h with h | h
      · exact .inl h
      · simp at h; exact .inr (by omega)
    have q0w := hr.lt e0 he0
    have eq0 : gIx (.loc l) (.int (e0.q : Int)) s1 = some (.int (ys.getD e0.q 0), s1) := by rw [gIx_lst el, at_row hrow.len q0w]; rfl
    have htb := hrow.at q0w
    generalize htv : ys.getD e0.q 0 = tv at eq0 htb
    simp [eq0]
    by_cases hz0 : tv = 0
    · left
      refine ⟨hz0, l, m, ys, M', t, _, _, _, _, _, rfl, hpre, hl0, hm0, hlm, ⟨hg, hlg, hmg⟩, el, em, hrow, fun e he h => ?_, fun e he h => ht0 e he fun h2 => h (by rw [htk]; exact List.mem_append_left _ h2), hnd, by omega, hks, hj, hi⟩
      rcases hmem e he h with h | h
      · exact hvan e he h
      · rw [h, htv, hz0]; exact ⟨0, by simp⟩
    · right
      refine ⟨hz0, ?_⟩
      have eo := (hen e0 he0).pre hpre
      have ixe : gIx (.loc dl) (.int (e0.q : Int)) s1 = some (.tup [.loc e0.l, .loc e0.m], s1) := by
        rw [gIx_dct (hpre.get hdl)]
        simp only [keyD, Option.bind_some, dGet_kv hr.nd he0, Option.map_some]
      have r0 := hr.row e0 he0
      refine ⟨_, _, hpre.get hk, rfl, _, hlkr, ?_⟩
      rw [ixe]
      simp
      refine ⟨_, _, hpre.get hk, rfl, _, hlkp, ?_⟩
      rw [less_spec A hp.1 (.loc el) (.loc eo.1) (by rw [hrow.len]; omega) (r0.small' hp.2)]
      simp
      have pz : Pre s1 (s1 ++ [Ob.lst ((lessT p ys tv e0.L).map .int)]) := Pre.refl.push
      have hpz := hpre.trans pz
      have hln := hpre.1
      have lm0 := len_of (hen e0 he0).2
      refine less_dict A (k := k) (m := m) (pm := e0.m) (dl := 0) (times := tv) (P := e0.M) (M := M') hp.1 (by omega) rfl rfl rfl rfl (by decide) (by decide) (by decide) (by decide) (by simp) (hpz.get hk) (pz.get em) ((eo.pre pz).2) (by omega) (hr.keys e0 he0) hnd (by have := hr.short e0 he0; omega) fun v M'' hn2 hc2 hk2 hl2 => ?_
      have hv2 : ∀ j, j < w → p ∣ (lessT p ys tv e0.L).getD j 0 - (ys.getD j 0 - tv * e0.L.getD j 0) := fun j hj => less_at hrow r0 hj
      have hlm' := len_of em
      refine ⟨s1.length, m, lessT p ys tv e0.L, M'', fun x => if x = e0.q then tv else t x, _, _, _, _, _, rfl, hpz.set hm0, by omega, hm0, by omega, ⟨by rw [set_other (by omega)]; exact pz.get hg, by have := len_of hg; omega, hmg⟩, by rw [set_other (by omega)]; exact last_of, set_same (pz.get em), hrow.less hp.1 r0, fun e he h => ?_, fun e he h => ?_, hn2, by have := hr.short e0 he0; omega, fun x hx => ?_, fun j hjw => ?_, fun x => ?_⟩
      · have hqw := hr.lt e he
        have h1 := hv2 e.q hqw
        by_cases hq : e.q = e0.q
        · have h2 := hr.one e0 he0
          rw [hq] at h1 ⊢
          rw [htv] at h1
          exact dvd2 1 (-tv) h1 h2 (by grind)
        · have h2 := hr.off e he e0 he0 hq
          have h3 := hvan e he ((hmem e he h).resolve_right hq)
          exact dvd3 1 1 (-tv) h1 h3 h2 (by grind)
      · have hq : e.q ≠ e0.q := fun q => h (by rw [htk, q]; simp)
        show (if e.q = e0.q then tv else t e.q) = 0
        rw [if_neg hq]
        exact ht0 e he fun h2 => h (by rw [htk]; exact List.mem_append_left _ h2)
      · rcases hk2 x hx with h | h
        · exact hks x h
        · exact .inr ⟨e0, he0, h⟩
      · rw [sumE_put (f := fun e => e.L.getD j 0) hr.nd he0 (ht0 e0 he0 hnt)]
        exact dvd2 1 1 (hv2 j hjw) (hj j hjw) (by grind)
      · rw [sumE_put (f := fun e => co e.M x) hr.nd he0 (ht0 e0 he0 hnt)]
        exact dvd2 1 1 (hc2 x) (hi x) (by grind)
  · rintro r1 s1 ⟨l, m, ys, M', t, v3, v4, v5, v6, v7, rfl, hpre, hl0, hm0, hlm, ⟨hg, hlg, hmg⟩, el, em, hrow, hvan, ht0, hnd, hlen, hks, hj, hi⟩
    simp only [List.length_map] at hvan hlen
    refine ⟨_, rfl, _, rfl, small24 (by decide), hpre, l, m, ⟨rfl, rfl⟩, hl0, hm0, hlm, ys, el, M', em, hrow, fun e he => ?_, hnd, by omega, hks, t, hj, hi⟩
    rw [List.take_length] at hvan
    exact hvan e he ((hQm _).mpr ⟨e, he, rfl⟩)
end DL
end
/-! ### P10 -/
section
set_option linter.all false
set_option maxRecDepth 100000
/-! P10: Steps.cleared, Steps.take. -/
namespace DL
open PySem PySem.Spec L2
open PyProof.Rows hiding St
open LA
theorem cleared_spec (A : Str → Addr) {s : Sto} {k l m ll mm w pl : Nat} {p : Int} {rest : List (Str × D)} {L left : List Int} {P M : List (Int × Int)} (hp : 0 < p ∧ p ≤ 1000) (hw : w ≤ 1000) (hk : s[k]? = some (.ins (A "Steps") (("kept_prime", .int p) :: rest)))
    (hl : s[l]? = some (.lst (L.map .int))) (hm : s[m]? = some (.dct (mdD P))) (hll : s[ll]? = some (.lst (left.map .int))) (hmm : s[mm]? = some (.dct (mdD M))) (r1 : IsRow p w L) (r2 : IsRow p w left) (hpl : pl < w)
    (nP : (keysM P).Nodup) (nM : (keysM M).Nodup) (l1 : P.length ≤ 10000) (l2 : M.length ≤ 10000) :
    RW (l_Steps_cleared A [.loc k, .tup [.loc l, .loc m], .int (pl : Int), .loc ll, .loc mm] s) fun v s' => Pre s s' ∧ ∃ l' m' P', v = .tup [.loc l', .loc m'] ∧ s.length ≤ l' ∧ s.length ≤ m' ∧
      s'[l']? = some (.lst ((lessT p L (L.getD pl 0) left).map .int)) ∧ s'[m']? = some (.dct (mdD P')) ∧ (keysM P').Nodup ∧ (∀ i, p ∣ co P' i - (co P i - L.getD pl 0 * co M i)) ∧ (∀ i ∈ keysM P', i ∈ keysM P ∨ i ∈ keysM M) := by
  unfold l_Steps_cleared
  rw [RW_def]
  refine ⟨rfl, ?_⟩
  have hkv : kvsOf s m = some (mdD P) := by simp [kvsOf, hm]
  have pz : Pre s (s ++ [Ob.dct (mdD P)]) := Pre.refl.push
  have htb := r1.at hpl
  have eq0 : gIx (.loc l) (.int (pl : Int)) (s ++ [Ob.dct (mdD P)]) = some (.int (L.getD pl 0), s ++ [Ob.dct (mdD P)]) := by rw [gIx_lst (pz.get hl), at_row r1.len hpl]; rfl
  generalize htv : L.getD pl 0 = tv at eq0 htb ⊢
  simp [hkv, eq0]
  have lmm := len_of hmm
  refine less_dict A (k := k) (m := s.length) (pm := mm) (dl := 0) (times := tv) (P := M) (M := P) hp.1 (by omega) rfl rfl rfl rfl (by decide) (by decide) (by decide) (by decide) (by simp) (pz.get hk) last_of (pz.get hmm) (by omega) nM nP (by omega) fun v M'' hn2 hc2 hk2 hl2 => ?_
  have ps : Pre s ((s ++ [Ob.dct (mdD P)]).set s.length (Ob.dct (mdD M''))) := pz.set (Nat.le_refl _)
  have em : ((s ++ [Ob.dct (mdD P)]).set s.length (Ob.dct (mdD M'')))[s.length]? = some (Ob.dct (mdD M'')) := set_same last_of
  generalize (s ++ [Ob.dct (mdD P)]).set s.length (Ob.dct (mdD M'')) = s1 at ps em
  have hlkp : List.lookup ("kept_prime" : Str) ((("kept_prime" : Str), D.int p) :: rest) = some (.int p) := by simp
  simp
  refine ⟨_, _, ps.get hk, rfl, _, hlkp, ?_⟩
  rw [less_spec A hp.1 (.loc (ps.get hl)) (.loc (ps.get hll)) (by rw [r1.len]; omega) (r2.small' hp.2)]
  simp
  have hs1 := len_of em
  refine ⟨small24 (by decide), ps.push, by omega, M'', ?_, hn2, hc2, by simpa using hk2⟩
  rw [List.getElem?_append_left hs1]
  exact em
end DL
end
/-! ### P11 -/
section
set_option linter.all false
set_option maxRecDepth 100000
/-! P11: what Steps keeps, by the sums taken: no program. -/
namespace DL
open PySem PySem.Spec L2
open PyProof.Rows hiding St
open LA
abbrev vecL (xs : List Int) : Vec := fun j => xs.getD j 0
abbrev vecE (e : En) : Vec := vecL e.L
structure SI (p : Int) (w : Nat) (S : Nat → Vec) (n : Nat) (E : List En) : Prop where
  rr : RR p w E
  made : ∀ e ∈ E, ∀ j, j < w → p ∣ e.L.getD j 0 - sm n fun i => co e.M (i : Int) * S i j
  supp : ∀ e ∈ E, ∀ x ∈ keysM e.M, ∃ i, i < n ∧ x = (i : Int) ∧ Al p w S i
  all : ∀ i, i < n → Sp p w (E.map vecE) (S i)
theorem pigeon : ∀ (n : Nat) (l : List Nat), l.Nodup → (∀ x ∈ l, x < n) → l.length ≤ n := by
  intro n
  induction n with
  | zero =>
    intro l _ h
    cases l with
    | nil => simp
    | cons x l => exact absurd (h x List.mem_cons_self) (by omega)
  | succ n ih =>
    intro l hn h
    have h1 := ih (l.filter fun x => decide (x ≠ n)) (hn.sublist List.filter_sublist) fun x hx => by
      rw [List.mem_filter] at hx
      have := h x hx.1
      have h2 : x ≠ n := by simpa using hx.2
      omega
    have h2 : l.length ≤ (l.filter fun x => decide (x ≠ n)).length + 1 := by
      clear h1 ih h
      induction l with
      | nil => simp
      | cons x l ih =>
        simp only [List.nodup_cons] at hn
        by_cases e : x = n
        · subst e
          have : l.filter (fun y => decide (y ≠ x)) = l := List.filter_eq_self.mpr fun y hy => by
            simp
            intro q
            subst q
            exact hn.1 hy
          have e2 : (x :: l).filter (fun y => decide (y ≠ x)) = l := by
            rw [List.filter_cons_of_neg (by simp)]
            exact this
          rw [e2]
          simp
        · have := ih hn.2
          simp [e] at this ⊢
          omega
    omega
theorem pigeonI {n : Nat} {l : List Int} (hn : l.Nodup) (h : ∀ x ∈ l, ∃ i : Nat, i < n ∧ x = (i : Int)) : l.length ≤ n := by
  have := pigeon n (l.map Int.toNat) (map_nodup hn fun x hx y hy e => by
    obtain ⟨i, _, rfl⟩ := h x hx
    obtain ⟨j, _, rfl⟩ := h y hy
    omega) fun x hx => by
    obtain ⟨y, hy, rfl⟩ := List.mem_map.mp hx
    obtain ⟨i, hi, rfl⟩ := h y hy
    omega
  simpa using this
abbrev rowsE (E : List En) : List (Nat × Vec) := E.map fun e => (e.q, vecE e)
theorem vs_rows (E : List En) : vs (rowsE E) = E.map vecE := by simp [vs]
theorem RR.tri0 {p : Int} {w : Nat} : ∀ {E : List En}, (E.map (·.q)).Nodup → (∀ e ∈ E, e.q < w) → (∀ e ∈ E, p ∣ e.L.getD e.q 0 - 1) → (∀ e ∈ E, ∀ e' ∈ E, e.q ≠ e'.q → p ∣ e'.L.getD e.q 0) → Tri p w (rowsE E)
  | [], _, _, _, _ => trivial
  | e :: E, hn, hl, h1, h2 => by
    simp only [List.map_cons, List.nodup_cons] at hn
    refine ⟨hl e List.mem_cons_self, h1 e List.mem_cons_self, fun x hx => ?_, RR.tri0 hn.2 (fun e he => hl e (List.mem_cons_of_mem _ he)) (fun e he => h1 e (List.mem_cons_of_mem _ he)) fun e he e' he' => h2 e (List.mem_cons_of_mem _ he) e' (List.mem_cons_of_mem _ he')⟩
    obtain ⟨e', he', rfl⟩ := List.mem_map.mp hx
    exact h2 e List.mem_cons_self e' (List.mem_cons_of_mem _ he') fun q => hn.1 (by rw [q]; exact List.mem_map.mpr ⟨e', he', rfl⟩)
theorem RR.tri {p : Int} {w : Nat} {E : List En} (h : RR p w E) : Tri p w (rowsE E) := RR.tri0 h.nd h.lt h.one h.off
theorem sp_sumE {p : Int} {w : Nat} {t : En → Int} : ∀ {E : List En}, Sp p w (E.map vecE) (fun j => sumE E fun e => t e * e.L.getD j 0)
  | [] => fun j _ => ⟨0, by simp [sumE]⟩
  | e :: E => ⟨t e, (sp_sumE (t := t) (E := E)).eq fun j _ => by simp only [sumE, vecE, vecL]; grind⟩
theorem sm_sumE {n : Nat} {t : En → Int} {f : En → Nat → Int} {g : Nat → Int} : ∀ {E : List En}, sm n (fun i => (sumE E fun e => t e * f e i) * g i) = sumE E fun e => t e * sm n fun i => f e i * g i
  | [] => by simp only [sumE]; exact sm_zero fun i _ => by simp
  | e :: E => by
    simp only [sumE]
    rw [← sm_sumE (t := t) (E := E)]
    have := sm_lin (t e) 1 (fun i => f e i * g i) (fun i => (sumE E fun e => t e * f e i) * g i) n
    rw [sm_congr (g := fun i => t e * (f e i * g i) + 1 * ((sumE E fun e => t e * f e i) * g i)) fun i _ => by grind, this]
    grind
theorem sm_cong {p : Int} {n : Nat} {f g s : Nat → Int} (h : ∀ i, i < n → p ∣ f i - g i) : p ∣ sm n (fun i => f i * s i) - sm n fun i => g i * s i := by
  have h1 : p ∣ sm n fun i => (f i - g i) * s i := sm_dvd fun i hi => dvd1 (s i) (h i hi) rfl
  have h2 := sm_lin 1 (-1) (fun i => f i * s i) (fun i => g i * s i) n
  rw [sm_congr (g := fun i => (f i - g i) * s i) fun i _ => by grind] at h2
  rw [h2] at h1
  exact dvd1 1 h1 (by grind)
theorem sumE_cong {p : Int} {E : List En} {f g : En → Int} (h : ∀ e ∈ E, p ∣ f e - g e) : p ∣ sumE E f - sumE E g := by
  induction E with
  | nil => exact ⟨0, by simp [sumE]⟩
  | cons e E ih =>
    simp only [sumE]
    exact dvd2 1 1 (h e List.mem_cons_self) (ih fun x hx => h x (List.mem_cons_of_mem _ hx)) (by grind)
section
variable {p : Int} {w n : Nat} {S : Nat → Vec} {E : List En} {xs ys : List Int} {M M' : List (Int × Int)}
/-- what is kept is made of the sums -/
theorem SI.up (h : SI p w S n E) : ∀ L ∈ E.map vecE, Sp p w (upto S n) L := fun L hL => by
  obtain ⟨e, he, rfl⟩ := List.mem_map.mp hL
  exact sp_iff.mpr ⟨fun i => co e.M (i : Int), h.made e he⟩
theorem SI.down (h : SI p w S n E) {v : Vec} (hv : Sp p w (upto S n) v) : Sp p w (E.map vecE) v := Sp.trans (fun L hL => by
  obtain ⟨i, hi, rfl⟩ := List.mem_map.mp hL
  exact h.all i (by simpa using hi)) hv
/-- 0 is left just of what is made -/
theorem SI.left (h : SI p w S n E) (f : Fallen p w E xs ys M M') : Z p w (vecL ys) ↔ Sp p w (upto S n) (vecL xs) := by
  obtain ⟨hy, hv, _, _, _, t, ht, _⟩ := f
  have hsum : Sp p w (E.map vecE) (fun j => sumE E fun e => t e.q * e.L.getD j 0) := sp_sumE
  constructor
  · intro z
    have : Sp p w (E.map vecE) (vecL xs) := hsum.congr fun j hj => dvd2 1 (-1) (ht j hj) (z j hj) (by simp only [vecL]; grind)
    exact Sp.trans h.up this
  · intro hs
    have h1 := (h.down hs).sub hsum
    have h2 : Sp p w (vs (rowsE E)) (vecL ys) := by
      rw [vs_rows]
      exact h1.congr fun j hj => dvd1 (-1) (ht j hj) (by simp only [vecL]; grind)
    refine tri_zero h.rr.tri h2 fun x hx => ?_
    obtain ⟨e, he, rfl⟩ := List.mem_map.mp hx
    exact hv e he
theorem SI.co0 (h : SI p w S n E) {e : En} (he : e ∈ E) : co e.M (n : Int) = 0 := co_none fun hk => by
  obtain ⟨i, hi, e1, _⟩ := h.supp e he _ hk
  omega
theorem SI.step (h : SI p w S n E) (hn : Sp p w (E.map vecE) (S n)) : SI p w S (n + 1) E := by
  refine ⟨h.rr, fun e he j hj => ?_, fun e he x hx => ?_, fun i hi => ?_⟩
  · simp only [sm]
    rw [h.co0 he]
    exact dvd1 1 (h.made e he j hj) (by grind)
  · obtain ⟨i, hi, a, b⟩ := h.supp e he x hx
    exact ⟨i, by omega, a, b⟩
  · by_cases e : i = n
    · subst e; exact hn
    · exact h.all i (by omega)
end
end DL
end
/-! ### P12 -/
section
set_option linter.all false
set_option maxRecDepth 100000
/-! P12: a sum more that is kept. -/
namespace DL
open PySem PySem.Spec L2
open PyProof.Rows hiding St
open LA
/-- a row cleared at a place -/
structure Clr (p : Int) (q : Nat) (left : List Int) (M2 : List (Int × Int)) (e e' : En) : Prop where
  q_ : e'.q = e.q
  L_ : e'.L = lessT p e.L (e.L.getD q 0) left
  nd : (keysM e'.M).Nodup
  co_ : ∀ i, p ∣ co e'.M i - (co e.M i - e.L.getD q 0 * co M2 i)
  keys : ∀ i ∈ keysM e'.M, i ∈ keysM e.M ∨ i ∈ keysM M2
theorem paired_mem {α β : Type} {R : α → β → Prop} : ∀ {xs : List α} {ys : List β}, Paired R xs ys → (∀ y ∈ ys, ∃ x ∈ xs, R x y) ∧ ∀ x ∈ xs, ∃ y ∈ ys, R x y
  | _, _, .nil => ⟨by simp, by simp⟩
  | x :: xs, y :: ys, .cons h r => by
    obtain ⟨a, b⟩ := paired_mem r
    constructor
    · intro z hz
      rcases List.mem_cons.mp hz with rfl | hz
      · exact ⟨x, List.mem_cons_self, h⟩
      · obtain ⟨u, hu, hr⟩ := a z hz
        exact ⟨u, List.mem_cons_of_mem _ hu, hr⟩
    · intro z hz
      rcases List.mem_cons.mp hz with rfl | hz
      · exact ⟨y, List.mem_cons_self, h⟩
      · obtain ⟨u, hu, hr⟩ := b z hz
        exact ⟨u, List.mem_cons_of_mem _ hu, hr⟩
theorem clr_q {p : Int} {q : Nat} {left : List Int} {M2 : List (Int × Int)} : ∀ {E E' : List En}, Paired (Clr p q left M2) E E' → E'.map (·.q) = E.map (·.q)
  | _, _, .nil => rfl
  | _, _, .cons h r => by simp [h.q_, clr_q r]
theorem dvd_small {p x : Int} (h : p ∣ x) (h0 : 0 ≤ x) (h1 : x < p) : x = 0 := by
  have := Int.emod_eq_of_lt h0 h1
  rw [Int.emod_eq_zero_of_dvd h] at this
  omega
section
variable {p b : Int} {w n q : Nat} {S : Nat → Vec} {E E' : List En} {xs ys left : List Int} {M' M2 : List (Int × Int)} {e0 : En}
theorem SI.new (hp : Pr p) (hw : w ≤ 50) (hn : n < 90) (h : SI p w S n E) (f : Fallen p w E xs ys [((n : Int), 1)] M') (hS : ∀ j, j < w → S n j = xs.getD j 0)
    (hq : q < w) (hy0 : ys.getD q 0 ≠ 0) (hlo : ∀ j, j < q → ys.getD j 0 = 0) (hb : b * ys.getD q 0 % p = 1) (h1 : e0.q = q) (h2 : e0.L = left) (h3 : e0.M = M2) (hleft : IsRow p w left) (hl : ∀ j, j < w → p ∣ left.getD j 0 - ys.getD j 0 * b)
    (hM2n : (keysM M2).Nodup) (hM2k : ∀ i ∈ keysM M2, i ∈ keysM M') (hM2 : ∀ i, p ∣ co M2 i - co M' i * b) (hc : Paired (Clr p q left M2) E E') : SI p w S (n + 1) (e0 :: E') ∧ Al p w S n := by
  have hpos : 0 < p := by have := hp.two; omega
  obtain ⟨a1, a2⟩ := paired_mem hc
  have hfl := h.left f
  obtain ⟨hy, hv, hnd, _, hks, t, ht, htc⟩ := id f
  have hnS : Al p w S n := fun hs => by
    have h5 : Sp p w (upto S n) (vecL xs) := hs.eq fun j hj => by simp only [vecL]; exact hS j hj
    have hz := hfl.mpr h5 q hq
    exact hy0 (dvd_small hz (hy.at hq).1 (hy.at hq).2)
  have hz0 : ∀ e ∈ E, ys.getD e.q 0 = 0 := fun e he => dvd_small (hv e he) (hy.at (h.rr.lt e he)).1 (hy.at (h.rr.lt e he)).2
  have hlz : ∀ e ∈ E, p ∣ left.getD e.q 0 := fun e he => by
    have := hl e.q (h.rr.lt e he)
    rw [hz0 e he] at this
    exact dvd1 1 this (by grind)
  have hb1 : p ∣ b * ys.getD q 0 - 1 := by
    have := Int.emod_add_mul_ediv (b * ys.getD q 0) p
    exact ⟨b * ys.getD q 0 / p, by grind⟩
  have hl1 : p ∣ left.getD q 0 - 1 := dvd2 1 1 (hl q hq) hb1 (by grind)
  have hqE : ∀ e ∈ E, e.q ≠ q := fun e he e1 => by
    have := hz0 e he
    rw [e1] at this
    exact hy0 this
  have hsupp : ∀ x ∈ keysM M2, ∃ i, i < n + 1 ∧ x = (i : Int) ∧ Al p w S i := fun x hx => by
    rcases hks x (hM2k x hx) with h5 | ⟨e, he, h5⟩
    · simp at h5; exact ⟨n, by omega, h5, hnS⟩
    · obtain ⟨i, hi, e1, e2⟩ := h.supp e he x h5
      exact ⟨i, by omega, e1, e2⟩
  have hsuppE : ∀ e ∈ E, ∀ e', Clr p q left M2 e e' → ∀ x ∈ keysM e'.M, ∃ i, i < n + 1 ∧ x = (i : Int) ∧ Al p w S i := fun e he e' hcl x hx => by
    rcases hcl.keys x hx with h5 | h5
    · obtain ⟨i, hi, e1, e2⟩ := h.supp e he x h5
      exact ⟨i, by omega, e1, e2⟩
    · exact hsupp x h5
  have hlen : ∀ M : List (Int × Int), (keysM M).Nodup → (∀ x ∈ keysM M, ∃ i, i < n + 1 ∧ x = (i : Int) ∧ Al p w S i) → M.length ≤ 100 := fun M hn2 hs => by
    have := pigeonI hn2 fun x hx => by
      obtain ⟨i, hi, e1, _⟩ := hs x hx
      exact ⟨i, hi, e1⟩
    simp at this
    omega
  have hndq : ((e0 :: E').map (·.q)).Nodup := by
    rw [List.map_cons, clr_q hc, h1]
    refine List.nodup_cons.mpr ⟨fun hm => ?_, h.rr.nd⟩
    obtain ⟨e, he, e1⟩ := List.mem_map.mp hm
    exact hqE e he e1
  have hat : ∀ e ∈ E, ∀ e', Clr p q left M2 e e' → ∀ j, j < w → p ∣ e'.L.getD j 0 - (e.L.getD j 0 - e.L.getD q 0 * left.getD j 0) := fun e he e' hcl j hj => by
    rw [hcl.L_]
    exact less_at (h.rr.row e he) hleft hj
  have hltq : ∀ e ∈ e0 :: E', e.q < w := fun e he => by
    rcases List.mem_cons.mp he with rfl | he
    · rw [h1]; exact hq
    · obtain ⟨x, hx, hcl⟩ := a1 e he
      rw [hcl.q_]; exact h.rr.lt x hx
  have hrr : RR p w (e0 :: E') := by
    refine ⟨?_, hndq, fun e he => ?_, hltq, fun e he => ?_, fun e he e' he' hne => ?_, fun e he => ?_, fun e he => ?_, fun e he j hj => ?_⟩
    · have := pigeon w _ hndq fun x hx => by
        obtain ⟨e, he, rfl⟩ := List.mem_map.mp hx
        exact hltq e he
      simp only [List.length_map] at this
      omega
    · rcases List.mem_cons.mp he with rfl | he
      · rw [h2]; exact hleft
      · obtain ⟨x, hx, hcl⟩ := a1 e he
        rw [hcl.L_]; exact (h.rr.row x hx).less hpos hleft
    · rcases List.mem_cons.mp he with rfl | he
      · rw [h2, h1]; exact hl1
      · obtain ⟨x, hx, hcl⟩ := a1 e he
        have h5 := hat x hx e hcl x.q (h.rr.lt x hx)
        rw [hcl.q_]
        exact dvd3 1 1 (-(x.L.getD q 0)) h5 (h.rr.one x hx) (hlz x hx) (by grind)
    · rcases List.mem_cons.mp he with rfl | he
      · rcases List.mem_cons.mp he' with rfl | he'
        · exact absurd rfl hne
        · obtain ⟨x, hx, hcl⟩ := a1 e' he'
          have h5 := hat x hx e' hcl q hq
          rw [h1]
          exact dvd2 1 (-(x.L.getD q 0)) h5 hl1 (by grind)
      · obtain ⟨x, hx, hcl⟩ := a1 e he
        rcases List.mem_cons.mp he' with rfl | he'
        · rw [h2, hcl.q_]; exact hlz x hx
        · obtain ⟨y, hy', hcl'⟩ := a1 e' he'
          rw [hcl.q_] at hne ⊢
          rw [hcl'.q_] at hne
          have h5 := hat y hy' e' hcl' x.q (h.rr.lt x hx)
          exact dvd3 1 1 (-(y.L.getD q 0)) h5 (h.rr.off x hx y hy' hne) (hlz x hx) (by grind)
    · rcases List.mem_cons.mp he with rfl | he
      · rw [h3]; exact hM2n
      · obtain ⟨x, hx, hcl⟩ := a1 e he
        exact hcl.nd
    · rcases List.mem_cons.mp he with rfl | he
      · rw [h3]; exact hlen M2 hM2n hsupp
      · obtain ⟨x, hx, hcl⟩ := a1 e he
        exact hlen e.M hcl.nd (hsuppE x hx e hcl)
    · have hl0 : ∀ j, j < q → p ∣ left.getD j 0 := fun j hj => by
        have := hl j (by omega)
        rw [hlo j hj] at this
        exact dvd1 1 this (by grind)
      rcases List.mem_cons.mp he with rfl | he
      · rw [h1] at hj
        rw [h2]
        exact hl0 j hj
      · obtain ⟨x, hx, hcl⟩ := a1 e he
        rw [hcl.q_] at hj
        have hw2 := h.rr.lt x hx
        have h5 := hat x hx e hcl j (by omega)
        have h6 := h.rr.low x hx j hj
        rcases Nat.lt_or_ge j q with hjq | hjq
        · exact dvd3 1 1 (-(x.L.getD q 0)) h5 h6 (hl0 j hjq) (by grind)
        · exact dvd3 1 1 (-(left.getD j 0)) h5 h6 (h.rr.low x hx q (by omega)) (by grind)
  -- how the new row is made
  have hmade1 : ∀ e ∈ E, ∀ j, j < w → p ∣ e.L.getD j 0 - sm (n + 1) fun i => co e.M (i : Int) * S i j := fun e he j hj => by
    simp only [sm]
    rw [h.co0 he]
    exact dvd1 1 (h.made e he j hj) (by grind)
  have hmadeN : ∀ j, j < w → p ∣ left.getD j 0 - sm (n + 1) fun i => co M2 (i : Int) * S i j := fun j hj => by
    have g1 : p ∣ sm (n + 1) (fun i => co M2 (i : Int) * S i j) - sm (n + 1) fun i => (co M' (i : Int) * b) * S i j := sm_cong (fun i _ => hM2 i)
    have g2 : p ∣ sm (n + 1) (fun i => co M' (i : Int) * S i j) - sm (n + 1) fun i => (co [((n : Int), (1 : Int))] (i : Int) - sumE E fun e => t e.q * co e.M (i : Int)) * S i j := sm_cong (fun i _ => htc i)
    have g3 : sm (n + 1) (fun i => (co M' (i : Int) * b) * S i j) = b * sm (n + 1) fun i => co M' (i : Int) * S i j := by
      have := sm_lin b 0 (fun i => co M' (i : Int) * S i j) (fun _ => 0) (n + 1)
      rw [sm_congr (g := fun i => b * (co M' (i : Int) * S i j) + 0 * 0) fun i _ => by grind, this]
      grind
    have g4 : sm (n + 1) (fun i => (co [((n : Int), (1 : Int))] (i : Int) - sumE E fun e => t e.q * co e.M (i : Int)) * S i j) = S n j - sumE E fun e => t e.q * sm (n + 1) fun i => co e.M (i : Int) * S i j := by
      have := sm_lin 1 (-1) (fun i => co [((n : Int), (1 : Int))] (i : Int) * S i j) (fun i => (sumE E fun e => t e.q * co e.M (i : Int)) * S i j) (n + 1)
      rw [sm_congr (g := fun i => 1 * (co [((n : Int), (1 : Int))] (i : Int) * S i j) + -1 * ((sumE E fun e => t e.q * co e.M (i : Int)) * S i j)) fun i _ => by grind, this, sm_sumE (t := fun e => t e.q) (f := fun e i => co e.M (i : Int)) (g := fun i => S i j)]
      have g5 : sm (n + 1) (fun i => co [((n : Int), (1 : Int))] (i : Int) * S i j) = S n j := by
        simp only [sm]
        rw [sm_zero fun i hi => by
          have : ¬ (n : Int) = (i : Int) := by omega
          simp [co, this]]
        simp [co]
      rw [g5]
      grind
    have g6 : p ∣ (sumE E fun e => t e.q * e.L.getD j 0) - sumE E fun e => t e.q * sm (n + 1) fun i => co e.M (i : Int) * S i j := sumE_cong fun e he => dvd1 (t e.q) (hmade1 e he j hj) (by grind)
    have g7 := hl j hj
    have g8 := ht j hj
    rw [g3] at g1
    rw [g4] at g2
    rw [hS j hj] at g2
    obtain ⟨k1, e1⟩ := g1
    obtain ⟨k2, e2⟩ := g2
    obtain ⟨k6, e6⟩ := g6
    obtain ⟨k7, e7⟩ := g7
    obtain ⟨k8, e8⟩ := g8
    exact ⟨k7 - k1 + b * (k8 - k2 - k6), by grind⟩
  refine ⟨⟨hrr, fun e he j hj => ?_, fun e he x hx => ?_, fun i hi => ?_⟩, hnS⟩
  · rcases List.mem_cons.mp he with rfl | he
    · rw [h2, h3]; exact hmadeN j hj
    · obtain ⟨x, hx, hcl⟩ := a1 e he
      have g1 : p ∣ sm (n + 1) (fun i => co e.M (i : Int) * S i j) - sm (n + 1) fun i => (co x.M (i : Int) - x.L.getD q 0 * co M2 (i : Int)) * S i j := sm_cong (fun i _ => hcl.co_ i)
      have g2 := sm_lin 1 (-(x.L.getD q 0)) (fun i => co x.M (i : Int) * S i j) (fun i => co M2 (i : Int) * S i j) (n + 1)
      rw [sm_congr (f := fun i => (co x.M (i : Int) - x.L.getD q 0 * co M2 (i : Int)) * S i j) (g := fun i => 1 * (co x.M (i : Int) * S i j) + -(x.L.getD q 0) * (co M2 (i : Int) * S i j)) fun i _ => by grind, g2] at g1
      obtain ⟨k1, e1⟩ := g1
      obtain ⟨k2, e2⟩ := hat x hx e hcl j hj
      obtain ⟨k3, e3⟩ := hmade1 x hx j hj
      obtain ⟨k4, e4⟩ := hmadeN j hj
      exact ⟨k2 - k1 + k3 - x.L.getD q 0 * k4, by grind⟩
  · rcases List.mem_cons.mp he with rfl | he
    · rw [h3] at hx; exact hsupp x hx
    · obtain ⟨y, hy', hcl⟩ := a1 e he
      exact hsuppE y hy' e hcl x hx
  · have hnew : Sp p w ((e0 :: E').map vecE) (vecL left) := by
      have : Sp p w ((e0 :: E').map vecE) (vecE e0) := Sp.mem (List.mem_map.mpr ⟨e0, List.mem_cons_self, rfl⟩)
      exact this.eq fun j _ => by simp only [vecE, h2]
    have hold : ∀ L ∈ E.map vecE, Sp p w ((e0 :: E').map vecE) L := fun L hL => by
      obtain ⟨e, he, rfl⟩ := List.mem_map.mp hL
      obtain ⟨e', he', hcl⟩ := a2 e he
      have g1 : Sp p w ((e0 :: E').map vecE) (vecE e') := Sp.mem (List.mem_map.mpr ⟨e', List.mem_cons_of_mem _ he', rfl⟩)
      exact (g1.add (hnew.smul (e.L.getD q 0))).congr fun j hj => dvd1 1 (hat e he e' hcl j hj) (by simp only [vecE, vecL]; grind)
    by_cases hin : i = n
    · subst hin
      have g1 : Sp p w ((e0 :: E').map vecE) (fun j => sumE E fun e => t e.q * e.L.getD j 0) := Sp.trans hold (sp_sumE (t := fun e => t e.q))
      refine (g1.add (hnew.smul (ys.getD q 0))).congr fun j hj => ?_
      simp only [vecL]
      rw [hS j hj]
      obtain ⟨k1, e1⟩ := ht j hj
      obtain ⟨k2, e2⟩ := hl j hj
      obtain ⟨k3, e3⟩ := hb1
      exact ⟨k1 + ys.getD q 0 * k2 + ys.getD j 0 * k3, by grind⟩
    · exact Sp.trans hold (h.all i (by omega))
end
end DL
end
/-! ### P13 -/
section
set_option linter.all false
set_option maxRecDepth 100000
/-! P13: Steps.take. -/
namespace DL
open PySem PySem.Spec L2
open PyProof.Rows hiding St
open LA
theorem lk_kept_rows {p : Int} {dl : Nat} : List.lookup ("kept_rows" : Str) [(("kept_prime" : Str), D.int p), ("kept_rows", .loc dl)] = some (.loc dl) := by
  have h : (("kept_rows" : Str) == ("kept_prime" : Str)) = false := by decide +kernel
  simp [List.lookup, h]
theorem lk_kept_prime {p : Int} {rest : List (Str × D)} : List.lookup ("kept_prime" : Str) ((("kept_prime" : Str), D.int p) :: rest) = some (.int p) := by simp
theorem lk_no {x : Str} {p : Int} {dl : Nat} (h1 : (x == ("kept_prime" : Str)) = false) (h2 : (x == ("kept_rows" : Str)) = false) : List.lookup x [(("kept_prime" : Str), D.int p), ("kept_rows", .loc dl)] = none := by simp [List.lookup, h1, h2]
theorem put_rows {p : Int} {dl dl' : Nat} : putD "kept_rows" (.loc dl') [(("kept_prime" : Str), D.int p), ("kept_rows", .loc dl)] = [(("kept_prime" : Str), D.int p), ("kept_rows", .loc dl')] := by
  have h : ¬ ("kept_prime" : Str) = ("kept_rows" : Str) := by decide +kernel
  simp [putD, h]
/-- all but k stays -/
def But (k : Nat) (s s' : Sto) : Prop := s.length ≤ s'.length ∧ ∀ i, i ≠ k → i < s.length → s'[i]? = s[i]?
theorem But.refl {k : Nat} {s : Sto} : But k s s := ⟨Nat.le_refl _, fun _ _ _ => rfl⟩
theorem But.trans {k : Nat} {s s1 s2 : Sto} (a : But k s s1) (b : But k s1 s2) : But k s s2 := ⟨Nat.le_trans a.1 b.1, fun i hi hl => (b.2 i hi (Nat.lt_of_lt_of_le hl a.1)).trans (a.2 i hi hl)⟩
theorem Pre.but {k : Nat} {s s1 : Sto} (a : Pre s s1) : But k s s1 := ⟨a.1, fun i _ hl => a.2 i hl⟩
theorem But.get {k : Nat} {s s1 : Sto} (a : But k s s1) {n : Nat} {ob : Ob} (h : s[n]? = some ob) (hn : n ≠ k) : s1[n]? = some ob := by rw [a.2 n hn (len_of h)]; exact h
theorem dPut_kv {E : List En} {e : En} (h : e.q ∉ E.map (·.q)) : dPut (kvD E) (.inl (e.q : Int)) (.tup [.loc e.l, .loc e.m]) = kvD (E ++ [e]) := by
  unfold dPut
  have : ((kvD E).any fun kv => decide (kv.1 = .inl (e.q : Int))) = false := by
    simp
    intro x hx he
    exact h (List.mem_map.mpr ⟨x, hx, by omega⟩)
  rw [this]
  simp
/-- in the midst of clearing -/
def CIn (A : Str → Addr) (s0 : Sto) (p : Int) (q : Nat) (left : List Int) (M2 : List (Int × Int)) (e0 : En) (E : List En) (k dl rr : Nat) (r0 : Env) (i : Nat) (r : Env) (s : Sto) : Prop :=
  ∃ (v : Option D) (E1 : List En), r = r0.set 8 v ∧ Paired (Clr p q left M2) (E.take i) E1 ∧ s[dl]? = some (.lok (kvD E)) ∧ s[rr]? = some (.dct (kvD (e0 :: E1))) ∧ (∀ e ∈ E1, EnAt s e) ∧ s0.length ≤ s.length ∧ (∀ i, i ≠ dl → i ≠ rr → i < s0.length → s[i]? = s0[i]?)
theorem paired_snoc {α β : Type} {R : α → β → Prop} : ∀ {xs : List α} {ys : List β} {x : α} {y : β}, Paired R xs ys → R x y → Paired R (xs ++ [x]) (ys ++ [y])
  | _, _, _, _, .nil, h => .cons h .nil
  | _, _, _, _, .cons h r, h2 => .cons h (paired_snoc r h2)
theorem keysM_scaled {M : List (Int × Int)} {f : Int → Int} : keysM (M.map fun kx => (kx.1, f kx.2)) = keysM M := by simp
theorem co_scaled {b p : Int} : ∀ (M : List (Int × Int)) (i : Int), p ∣ co (M.map fun kx => (kx.1, kx.2 * b % p)) i - co M i * b
  | [], i => ⟨0, by simp [co]⟩
  | (k, x) :: M, i => by
    simp only [List.map_cons, co]
    by_cases h : k = i
    · rw [if_pos h, if_pos h]
      have := Int.emod_add_mul_ediv (x * b) p
      exact ⟨-(x * b / p), by grind⟩
    · rw [if_neg h, if_neg h]
      exact co_scaled M i
theorem foldl_put : ∀ (N : List (Int × Int)) (acc : List (Key × D)), (keysM N).Nodup → (∀ k ∈ keysM N, ∀ kv ∈ acc, kv.1 ≠ .inl k) → (mdD N).foldl (fun acc kv => dPut acc kv.1 kv.2) acc = acc ++ mdD N
  | [], acc, _, _ => by simp
  | (k, x) :: N, acc, hn, hd => by
    simp only [List.map_cons, List.nodup_cons] at hn
    simp only [List.map_cons, List.foldl_cons]
    have e : dPut acc (.inl k) (.int x) = acc ++ [(.inl k, .int x)] := by
      unfold dPut
      have : (acc.any fun kv => decide (kv.1 = .inl k)) = false := by
        simp
        intro a b hab e
        exact hd k (by simp) (a, b) hab e
      rw [this]
      simp
    rw [e, foldl_put N _ hn.2 fun k' hk' kv hkv => by
      rcases List.mem_append.mp hkv with h | h
      · exact hd k' (List.mem_cons_of_mem _ hk') kv h
      · simp at h
        subst h
        intro e2
        cases e2
        exact hn.1 hk']
    simp
theorem md_kv {M : List (Int × Int)} {F : List En} (h : mdD M = kvD F) : F = [] := by
  cases F with
  | nil => rfl
  | cons f F =>
    cases M with
    | nil => simp at h
    | cons x M => simp at h
theorem EnAt.ne {s : Sto} {e : En} {r : Nat} {F : List En} (h : EnAt s e) (hr : s[r]? = some (.dct (kvD F))) (hF : F ≠ []) : e.l ≠ r ∧ e.m ≠ r := by
  constructor
  · intro q
    have := h.1
    rw [q, hr] at this
    cases this
  · intro q
    have := h.2
    rw [q, hr] at this
    have e2 : kvD F = mdD e.M := by
      injection this with h1
      injection h1
    exact hF (md_kv e2.symm)
theorem co_mem {P : List (Int × Int)} (hn : (keysM P).Nodup) {kx : Int × Int} (h : kx ∈ P) : co P kx.1 = kx.2 := by
  obtain ⟨i, hi⟩ := List.mem_iff_getElem?.mp h
  exact co_at hn hi
theorem take_spec (A : Str → Addr) {s : Sto} {k w n : Nat} {p : Int} {E : List En} {S : Nat → Vec} {d : D} {xs : List Int} (hp : Pr p) (hp2 : p ≤ 1000) (hw : w ≤ 50) (hn : n < 90) (hst : StAt A s k p E) (h : SI p w S n E) (hd : SeqAt s d (xs.map .int)) (hx : IsRow p w xs) (hS : ∀ j, j < w → S n j = xs.getD j 0) :
    RW (l_Steps_take A [.loc k, .int (n : Int), d] s) fun v s' => But k s s' ∧ ∃ E', StAt A s' k p E' ∧ SI p w S (n + 1) E' ∧ ((v = .bl false ∧ ¬ Al p w S n ∧ E'.length = E.length) ∨ (v = .bl true ∧ Al p w S n ∧ E'.length = E.length + 1)) := by
  obtain ⟨⟨dl, hk, hdl⟩, hen⟩ := id hst
  have hpos : 0 < p := by have := hp.two; omega
  unfold l_Steps_take
  rw [RW_def]
  refine ⟨rfl, ?_⟩
  rw [SW_seq]
  have p1 : Pre s (s ++ [Ob.dct (mdD [((n : Int), 1)])]) := Pre.refl.push
  simp [mDisp, mEnts, mVar, mC, entsOf, keyD, dPut]
  have noF : ∀ (a : Str) (b : D), (a, b) ∈ [(("kept_prime" : Str), D.int p), ("kept_rows", .loc dl)] → ¬ ("fallen" : Str) = a := by
    intro a b hab
    simp at hab
    rcases hab with ⟨rfl, _⟩ | ⟨rfl, _⟩ <;> decide +kernel
  refine ⟨_, hk, noF, ?_⟩
  have ed : mdD [((n : Int), (1 : Int))] = [(Sum.inl (n : Int), D.int 1)] := rfl
  refine (fallen_spec A (md := s.length) (M := [((n : Int), 1)]) ⟨hpos, hp2⟩ (by omega) (hst.pre p1) h.rr (hd.pre p1) hx (by rw [ed]; exact last_of) (by simp) (by simp)).imp fun v s1 ⟨q1, l, m, ys, M', e, hl0, hm0, hlm, el, em, hf⟩ => ?_
  subst e
  have p2 : Pre s s1 := p1.trans q1
  simp
  refine (place_spec A (.loc el) (by rw [hf.1.len]; omega)).imp fun v s2 ⟨q2, e⟩ => ?_
  have p3 : Pre s s2 := p2.trans q2
  have st2 := hst.pre p3
  cases hz : fstNZ 0 ys with
  | none =>
    rw [hz] at e
    subst e
    simp
    have hz0 : Z p w (vecL ys) := fun j hj => by
      have : ys.getD j 0 ∈ ys := by
        have hl : j < ys.length := by rw [hf.1.len]; exact hj
        simp [List.getD_eq_getElem?_getD, List.getElem?_eq_getElem hl]
      simp only [vecL]
      rw [fstNZ_none.mp hz _ this]
      exact ⟨0, by simp⟩
    have hs := (h.left hf).mp hz0
    have hs2 : Sp p w (upto S n) (S n) := hs.eq fun j hj => (hS j hj).symm
    exact ⟨p3.but, E, st2, h.step (h.down hs2), fun a => a hs2, rfl⟩
  | some q =>
    rw [hz] at e
    subst e
    obtain ⟨_, hq, hq0, hqlo⟩ := fstNZ_some hz
    have hqw : q < w := by rw [← hf.1.len]; omega
    have hyb := hf.1.at hqw
    have hy0 : ys.getD q 0 ≠ 0 := by simpa using hq0
    simp
    refine ⟨_, _, p3.get hk, rfl, _, lk_kept_prime, ?_⟩
    rw [gIx_lst (q2.get el), at_row hf.1.len hqw]
    obtain ⟨yv, hyv⟩ : ∃ y, ys.getD q 0 = y := ⟨_, rfl⟩
    rw [hyv] at hyb hy0 ⊢
    simp
    refine (inverse_spec A hp hp2 (by omega)).imp fun v s3 ⟨q3, b, e, hb0, hb1, hb⟩ => ?_
    subst e
    have p4 : Pre s s3 := p3.trans q3
    have el3 := q3.get (q2.get el)
    have em3 := q3.get (q2.get em)
    refine ⟨_, _, src_lst el3, ?_⟩
    have hbb : -(2 ^ 64) < b ∧ b < 2 ^ 64 := by omega
    refine lc_ints (f := fun x => .int (x * b % p)) (b := fun _ => true) ?_ ?_ ?_ ?_
    · simpa using el3
    · exact small24 (by rw [hf.1.len]; omega)
    · intro x hx
      simp [wipeD]
      rw [gMul_r hbb]
      simp
      refine ⟨_, _, p4.get hk, rfl, _, lk_kept_prime, ?_⟩
      simp [hpos]
    have hmap : (List.filter (fun _ => true) ys).map (fun x => D.int (x * b % p)) = (ys.map fun x => x * b % p).map .int := by
      rw [List.filter_eq_self.mpr fun _ _ => rfl, List.map_map]
      rfl
    rw [hmap]
    obtain ⟨left, hleft⟩ : ∃ left, (ys.map fun x => x * b % p) = left := ⟨_, rfl⟩
    rw [hleft]
    have pl4 : Pre s3 (s3 ++ [Ob.lst (left.map .int)]) := Pre.refl.push
    have p5 := p4.trans pl4
    obtain ⟨s4, hs4⟩ : ∃ s4, s3 ++ [Ob.lst (left.map .int)] = s4 := ⟨_, rfl⟩
    have hl4 : s4[s3.length]? = some (.lst (left.map .int)) := by rw [← hs4]; exact last_of
    rw [hs4] at pl4 p5 ⊢
    have em4 := pl4.get em3
    have hM'n := hf.2.2.1
    obtain ⟨M2, hM2⟩ : ∃ M2, (M'.map fun kx => (kx.1, kx.2 * b % p)) = M2 := ⟨_, rfl⟩
    have kM2 : keysM M2 = keysM M' := by rw [← hM2]; simp
    refine RW_lock (l := m) (kvs := mdD M') (by simp [lockAt, mVar, em4]) ?_
    have hkm : k ≠ m := fun e => by
      have := p5.get hk
      rw [e, em4] at this
      cases this
    simp [set_same em4]
    refine RW.of (dc_pure (f := fun d => match d with | .int i => (.inl i, .int (co M' i * b % p)) | d => (.inl 0, d)) (b := fun _ => true) ?_ ?_ ?_) ?_
    · simp [set_same em4]
    · have := hf.2.2.2.1
      simp
      exact small24 (by simp at this; omega)
    · intro dd hdd
      obtain ⟨kx, hkx, rfl⟩ := List.mem_map.mp hdd
      simp only [Function.comp, keyV]
      have hin : kx.1 ∈ keysM M' := List.mem_map.mpr ⟨kx, hkx, rfl⟩
      refine ⟨_, .int kx.1, rfl, rfl, fun _ => ⟨?_, rfl, ?_⟩⟩
      · apply RW.eq; simp [wipeD]
      · apply RW.eq
        simp [wipeD]
        rw [gIx_md (set_same em4) hin]
        simp
        rw [gMul_r hbb]
        simp
        refine ⟨_, _, by rw [set_other (Ne.symm hkm)]; exact p5.get hk, rfl, _, lk_kept_prime, ?_⟩
        simp [hpos]
    have hfold : List.foldl (fun acc kv => dPut acc kv.fst kv.snd) [] (List.map (fun d => match d with | D.int i => ((Sum.inl i : Key), D.int (co M' i * b % p)) | d => (Sum.inl 0, d)) (List.filter (fun x => true) (List.map ((fun kv => keyV kv.fst) ∘ fun kx => ((Sum.inl kx.fst : Key), D.int kx.snd)) M'))) = mdD M2 := by
      have e1 : List.map (fun d => match d with | D.int i => ((Sum.inl i : Key), D.int (co M' i * b % p)) | d => (Sum.inl 0, d)) (List.filter (fun x => true) (List.map ((fun kv => keyV kv.fst) ∘ fun kx => ((Sum.inl kx.fst : Key), D.int kx.snd)) M')) = mdD M2 := by
        rw [List.filter_eq_self.mpr fun _ _ => rfl, ← hM2]
        simp only [List.map_map]
        apply List.map_congr_left
        intro kx hkx
        simp only [Function.comp, keyV]
        rw [co_mem hM'n hkx]
      rw [e1, foldl_put M2 [] (by rw [kM2]; exact hM'n) (by simp)]
      simp
    refine ⟨_, set_same em4, small24 (by decide), ?_⟩
    have hres : (List.set s4 m (Ob.lok (mdD M'))).set m (Ob.dct (mdD M')) = s4 := by
      apply List.ext_getElem?
      intro i
      by_cases h1 : m = i
      · subst h1
        rw [set_same (set_same em4), em4]
      · rw [set_other h1, set_other h1]
    have hlen4 : (List.set s4 m (Ob.lok (mdD M'))).length = s4.length := by simp
    rw [hfold, hres, hlen4]
    -- the rows made anew
    obtain ⟨e0, he0⟩ : ∃ e0 : En, e0 = ⟨q, s3.length, s4.length, left, M2⟩ := ⟨_, rfl⟩
    have pl5 : Pre s4 (s4 ++ [Ob.dct (mdD M2), Ob.dct [(Sum.inl (q : Int), D.tup [D.loc s3.length, D.loc s4.length])]]) := Pre.refl.push
    have hrr5 : (s4 ++ [Ob.dct (mdD M2), Ob.dct [(Sum.inl (q : Int), D.tup [D.loc s3.length, D.loc s4.length])]])[s4.length + 1]? = some (Ob.dct (kvD [e0])) := by
      rw [List.getElem?_append_right (by omega), he0]
      simp
    have hm25 : (s4 ++ [Ob.dct (mdD M2), Ob.dct [(Sum.inl (q : Int), D.tup [D.loc s3.length, D.loc s4.length])]])[s4.length]? = some (Ob.dct (mdD M2)) := by
      rw [List.getElem?_append_right (by omega)]
      simp
    have hlen5 : (s4 ++ [Ob.dct (mdD M2), Ob.dct [(Sum.inl (q : Int), D.tup [D.loc s3.length, D.loc s4.length])]]).length = s4.length + 2 := by simp
    obtain ⟨s5, hs5⟩ : ∃ s5, s4 ++ [Ob.dct (mdD M2), Ob.dct [(Sum.inl (q : Int), D.tup [D.loc s3.length, D.loc s4.length])]] = s5 := ⟨_, rfl⟩
    rw [hs5] at pl5 hrr5 hm25 hlen5 ⊢
    have p6 := p5.trans pl5
    have hl5 := pl5.get hl4
    have hk5 := p6.get hk
    have hdl5 := p6.get hdl
    have ldl := len_of hdl
    have lk := len_of hk
    have ls4 := pl4.1
    have ls3 := p4.1
    have hleftrow : IsRow p w left := by
      rw [← hleft]
      refine ⟨by simp [hf.1.len], fun x hx => ?_⟩
      obtain ⟨y, _, rfl⟩ := List.mem_map.mp hx
      exact ⟨Int.emod_nonneg _ (by omega), Int.emod_lt_of_pos _ hpos⟩
    have hleftat : ∀ j, j < w → p ∣ left.getD j 0 - ys.getD j 0 * b := fun j hj => by
      have hj2 : j < ys.length := by rw [hf.1.len]; exact hj
      have e1 : left.getD j 0 = ys.getD j 0 * b % p := by
        rw [← hleft]
        simp [List.getD_eq_getElem?_getD, List.getElem?_eq_getElem hj2]
      rw [e1]
      have := Int.emod_add_mul_ediv (ys.getD j 0 * b) p
      exact ⟨-(ys.getD j 0 * b / p), by grind⟩
    have hM2n : (keysM M2).Nodup := by rw [kM2]; exact hM'n
    have hqE : ∀ e ∈ E, e.q ≠ q := fun e he e1 => by
      have h1 := hf.2.1 e he
      rw [e1, hyv] at h1
      exact hy0 (dvd_small h1 hyb.1 hyb.2)
    have hM2len : M2.length ≤ 10000 := by
      have := hf.2.2.2.1
      have e : M2.length = M'.length := by rw [← hM2]; simp
      simp at this
      omega
    refine SW_lock (l := dl) (kvs := kvD E) ?_ ?_
    · simp [lockAt, mFld, mVar, hk5, lk_kept_rows, hdl5]
    have hkdl : k ≠ dl := fun e => by rw [e, hdl] at hk; cases hk
    simp
    refine ⟨_, _, by rw [set_other (Ne.symm hkdl)]; exact hk5, rfl, _, lk_kept_rows, ?_⟩
    refine ⟨dl, rfl, _, set_same hdl5, ?_⟩
    have noC : ∀ (a : Str) (b : D), (a, b) ∈ [(("kept_prime" : Str), D.int p), ("kept_rows", .loc dl)] → ¬ ("cleared" : Str) = a := by
      intro a b hab
      simp at hab
      rcases hab with ⟨rfl, _⟩ | ⟨rfl, _⟩ <;> decide +kernel
    obtain ⟨r0, hr0⟩ : ∃ r0 : Env, [some (D.loc k), some (D.int ↑n), some d, some (D.loc (List.length s3)), some (D.loc (List.length s4)), some (D.int ↑q), some (D.int b), some (D.loc (List.length s4 + 1)), none, none, none] = r0 := ⟨_, rfl⟩
    rw [hr0]
    have hnek : k ≠ s4.length + 1 := by omega
    refine SW_forGo (CIn A s5 p q left M2 e0 E k dl (s4.length + 1) r0) ?_ ?_ ?_ ?_
    · refine ⟨none, [], by rw [← hr0]; rfl, .nil, set_same hdl5, by rw [set_other (by omega)]; exact hrr5, by simp, by simp, fun i h1 h2 h3 => by rw [set_other (Ne.symm h1)]⟩
    · rintro i r1 s6 _ ⟨v, E1, rfl, hpair, hdlk, _⟩
      simpa using hdlk
    · rintro i dd r1 s6 hdd ⟨v, E1, rfl, hpair, hdlk, hrr, henE1, hlen6, hfr⟩
      obtain ⟨e, hei, rfl⟩ : ∃ e, E[i]? = some e ∧ dd = .int (e.q : Int) := by
        simp only [List.map_map, List.getElem?_map, Option.map_eq_some_iff] at hdd
        obtain ⟨e, h1, h2⟩ := hdd
        exact ⟨e, h1, h2.symm⟩
      have he := List.mem_of_getElem? hei
      have hEne : E ≠ [] := by intro q; rw [q] at he; cases he
      have ne := (hen e he).ne hdl hEne
      have ll := len_of (hen e he).1
      have lm := len_of (hen e he).2
      have hee : EnAt s6 e := ⟨by rw [hfr e.l ne.1 (by omega) (by omega)]; exact p6.get (hen e he).1, by rw [hfr e.m ne.2 (by omega) (by omega)]; exact p6.get (hen e he).2⟩
      have hk6 : s6[k]? = _ := (hfr k hkdl hnek (by omega)).trans hk5
      have hl6 : s6[s3.length]? = _ := (hfr s3.length (by omega) (by have := len_of hl4; omega) (by omega)).trans hl5
      have hm6 : s6[s4.length]? = _ := (hfr s4.length (by omega) (by omega) (by omega)).trans hm25
      have ixe : gIx (.loc dl) (.int (e.q : Int)) s6 = some (.tup [.loc e.l, .loc e.m], s6) := by
        rw [gIx_lok hdlk]
        simp only [keyD, Option.bind_some, dGet_kv h.rr.nd he, Option.map_some]
      rw [← hr0]
      simp
      refine ⟨_, by simpa using hk6, by simpa using noC, _, _, hk6, rfl, _, lk_kept_rows, ?_⟩
      rw [ixe]
      simp
      refine (cleared_spec A (w := w) ⟨hpos, hp2⟩ (by omega) hk6 hee.1 hee.2 hl6 hm6 (h.rr.row e he) hleftrow hqw (h.rr.keys e he) hM2n (by have := h.rr.short e he; omega) hM2len).imp fun v s7 ⟨q7, l', m', P', ev, hl', hm', el', em', hP1, hP2, hP3⟩ => ?_
      subst ev
      obtain ⟨e', he'⟩ : ∃ e' : En, e' = ⟨e.q, l', m', lessT p e.L (e.L.getD q 0) left, P'⟩ := ⟨_, rfl⟩
      have hcl : Clr p q left M2 e e' := by rw [he']; exact ⟨rfl, rfl, hP1, hP2, hP3⟩
      have hrr7 := q7.get hrr
      have hE1q : E1.map (·.q) = (E.take i).map (·.q) := clr_q hpair
      have htk : E.take (i + 1) = E.take i ++ [e] := by rw [List.take_succ, hei]; rfl
      have hnew : e'.q ∉ (e0 :: E1).map (·.q) := by
        rw [List.map_cons, hE1q, hcl.q_]
        intro hm
        rcases List.mem_cons.mp hm with h5 | h5
        · rw [he0] at h5
          exact hqE e he h5
        · have h6 : ((E.take (i + 1)).map (·.q)).Nodup := by
            rw [List.map_take]
            exact h.rr.nd.sublist (List.take_sublist _ _)
          rw [htk, List.map_append] at h6
          exact (List.nodup_append.mp h6).2.2 _ h5 _ (by simp) rfl
      have hlenE1 : E1.length ≤ 64 := by
        have := congrArg List.length hE1q
        have hf2 := h.rr.few
        simp at this
        omega
      have hset : gSet (.loc (s4.length + 1)) (.int (e.q : Int)) (.tup [.loc l', .loc m']) s7 = some (s7.set (s4.length + 1) (.dct (kvD (e0 :: E1 ++ [e'])))) := by
        simp only [gSet, hrr7, keyD, Option.bind_some]
        rw [if_pos (by rw [List.length_map]; simp; exact small24' (by omega))]
        have := dPut_kv hnew
        rw [he'] at this
        simp only at this
        rw [this, he']
      refine ⟨_, hset, some (.int (e.q : Int)), E1 ++ [e'], by simp, by rw [htk]; exact paired_snoc hpair hcl, ?_, ?_, ?_, ?_, ?_⟩
      · rw [set_other (by omega)]; exact q7.get hdlk
      · exact set_same hrr7
      · intro x hx
        rcases List.mem_append.mp hx with hx | hx
        · have hxe := (henE1 x hx).pre q7
          have hne := hxe.ne hrr7 (by simp)
          exact ⟨by rw [set_other (Ne.symm hne.1)]; exact hxe.1, by rw [set_other (Ne.symm hne.2)]; exact hxe.2⟩
        · have hx2 : x = e' := by simpa using hx
          rw [hx2]
          have hxe : EnAt s7 e' := by rw [he']; exact ⟨el', em'⟩
          have hne := hxe.ne hrr7 (by simp)
          exact ⟨by rw [set_other (Ne.symm hne.1)]; exact hxe.1, by rw [set_other (Ne.symm hne.2)]; exact hxe.2⟩
      · have := q7.1
        simp
        omega
      · intro j h1 h2 h3
        rw [set_other (Ne.symm h2), q7.2 j (by omega)]
        exact hfr j h1 h2 h3
    · rintro r1 s6 ⟨v, E1, rfl, hpair, hdlk, hrr, henE1, hlen6, hfr⟩
      simp only [List.length_map] at hpair
      rw [List.take_length] at hpair
      have hk6 : s6[k]? = _ := (hfr k hkdl hnek (by omega)).trans hk5
      have hl6 : s6[s3.length]? = _ := (hfr s3.length (by omega) (by have := len_of hl4; omega) (by omega)).trans hl5
      have hm6 : s6[s4.length]? = _ := (hfr s4.length (by omega) (by omega) (by omega)).trans hm25
      refine ⟨_, hdlk, ?_⟩
      rw [← hr0]
      simp
      obtain ⟨hsi, hal⟩ := SI.new (e0 := e0) (E' := E1) hp hw hn h hf hS hqw (by rw [hyv]; exact hy0) (fun j hj => hqlo j (by omega)) (by rw [hyv]; exact hb) (by rw [he0]) (by rw [he0]) (by rw [he0]) hleftrow hleftat hM2n (fun i hi => by rw [kM2] at hi; exact hi) (fun i => by rw [← hM2]; exact co_scaled M' i) hpair
      have hlE : E1.length = E.length := by
        have := congrArg List.length (clr_q hpair)
        simpa using this
      refine ⟨_, _, by rw [set_other (Ne.symm hkdl)]; exact hk6, rfl, by simp, ⟨by simp; omega, fun i hik hil => ?_⟩, e0 :: E1, ⟨⟨s4.length + 1, ?_, ?_⟩, fun e he => ?_⟩, hsi, hal, by simp [hlE]⟩
      · rw [set_other (Ne.symm hik)]
        by_cases hid : dl = i
        · subst hid
          rw [set_same hdlk]
          exact hdl.symm
        · rw [set_other hid, hfr i (Ne.symm hid) (by omega) (by omega)]
          exact p6.2 i hil
      · rw [put_rows]
        exact set_same (by rw [set_other (Ne.symm hkdl)]; exact hk6)
      · rw [set_other hnek, set_other (by omega)]
        exact hrr
      · have fin : EnAt s6 e → EnAt ((List.set s6 dl (Ob.dct (kvD E))).set k (Ob.ins (A "Steps") (putD "kept_rows" (D.loc (s4.length + 1)) [("kept_prime", D.int p), ("kept_rows", D.loc dl)]))) e := fun hx => by
          have a1 : e.l ≠ k := fun q => by have := hx.1; rw [q, hk6] at this; cases this
          have a2 : e.m ≠ k := fun q => by have := hx.2; rw [q, hk6] at this; cases this
          have a3 : e.l ≠ dl := fun q => by have := hx.1; rw [q, hdlk] at this; cases this
          have a4 : e.m ≠ dl := fun q => by have := hx.2; rw [q, hdlk] at this; cases this
          exact ⟨by rw [set_other (Ne.symm a1), set_other (Ne.symm a3)]; exact hx.1, by rw [set_other (Ne.symm a2), set_other (Ne.symm a4)]; exact hx.2⟩
        rcases List.mem_cons.mp he with rfl | he
        · exact fin (by rw [he0]; exact ⟨hl6, hm6⟩)
        · exact fin (henE1 e he)
end DL
end
/-! ### P14 -/
section
set_option linter.all false
set_option maxRecDepth 100000
/-! P14: steps_of, made_by, made_of. -/
namespace DL
open PySem PySem.Spec L2
open PyProof.Rows hiding St
open LA
abbrev famL (T : List (List Int)) : Nat → Vec := fun i => vecL (T.getD i [])
open Classical in
/-- how many of the first n are not made of those ahead -/
noncomputable def rk (p : Int) (w : Nat) (S : Nat → Vec) : Nat → Nat
  | 0 => 0
  | n + 1 => rk p w S n + if Al p w S n then 1 else 0
theorem SI.nil {p : Int} {w : Nat} {S : Nat → Vec} : SI p w S 0 [] := ⟨⟨by simp, .nil, by simp, by simp, by simp, by simp, by simp, by simp, by simp⟩, by simp, by simp, fun i hi => by omega⟩
theorem numbered_at {ds : List D} {i : Nat} {d : D} (h : (numbered 0 ds)[i]? = some d) : ∃ x, ds[i]? = some x ∧ d = .tup [.int (i : Int), x] := by
  rw [numbered_get, Option.map_eq_some_iff] at h
  obtain ⟨x, h1, h2⟩ := h
  exact ⟨x, h1, by rw [← h2]; simp⟩
def SOIn (A : Str → Addr) (s : Sto) (p : Int) (w : Nat) (T : List (List Int)) (k : Nat) (i : Nat) (r : Env) (s1 : Sto) : Prop :=
  ∃ (v3 v4 : Option D) (E : List En), r = [some (.int p), some (sumsD T), some (.loc k), v3, v4] ∧ Pre s s1 ∧ StAt A s1 k p E ∧ SI p w (famL T) i E ∧ E.length = rk p w (famL T) i
theorem But.pre {k : Nat} {s s1 s2 : Sto} (a : Pre s s1) (b : But k s1 s2) (hk : s.length ≤ k) : Pre s s2 := ⟨Nat.le_trans a.1 b.1, fun i hi => (b.2 i (by omega) (Nat.lt_of_lt_of_le hi a.1)).trans (a.2 i hi)⟩
theorem Pre.pre_but {k : Nat} {s s1 s2 : Sto} (a : Pre s s1) (b : But k s1 s2) (hk : s.length ≤ k := by omega) : Pre s s2 := But.pre a b hk
theorem steps_spec (A : Str → Addr) {s : Sto} {p : Int} {w : Nat} {T : List (List Int)} (hp : Pr p) (hp2 : p ≤ 1000) (hw : w ≤ 50) (hl : T.length < 90) (hT : ∀ r ∈ T, IsRow p w r) :
    RW (l_steps_of A [.int p, sumsD T] s) fun v s' => Pre s s' ∧ ∃ k E, v = .loc k ∧ s.length ≤ k ∧ StAt A s' k p E ∧ SI p w (famL T) T.length E ∧ E.length = rk p w (famL T) T.length := by
  unfold l_steps_of
  rw [RW_def]
  refine ⟨rfl, ?_⟩
  rw [SW_seq]
  have pfk : putD "kept_rows" (D.loc (s.length + 1)) (putD "kept_prime" (D.int p) []) = [(("kept_prime" : Str), D.int p), ("kept_rows", .loc (s.length + 1))] := by
    have h : ¬ ("kept_prime" : Str) = ("kept_rows" : Str) := by decide +kernel
    simp [putD, h]
  simp [l_Steps_init]
  rw [pfk]
  refine ⟨by simp [putD], ?_⟩
  have p0 : Pre s (s ++ [Ob.ins (A "Steps") [(("kept_prime" : Str), D.int p), ("kept_rows", .loc (s.length + 1))], Ob.dct []]) := Pre.refl.push
  refine SW_forGo (SOIn A s p w T s.length) ?_ ?_ ?_ ?_
  · refine ⟨none, none, [], rfl, p0, ⟨⟨s.length + 1, ?_, ?_⟩, by simp⟩, SI.nil, rfl⟩
    · rw [List.getElem?_append_right (by omega)]; simp
    · rw [List.getElem?_append_right (by omega)]; simp
  · intros; simp
  · rintro i dd r1 s1 hdd ⟨v3, v4, E, rfl, hpre, hst, hsi, hlen⟩
    obtain ⟨x, hx, rfl⟩ := numbered_at hdd
    rw [List.getElem?_map, Option.map_eq_some_iff] at hx
    obtain ⟨row, hrow, rfl⟩ := hx
    have hrl : i < T.length := (List.getElem?_eq_some_iff.mp hrow).1
    obtain ⟨dl, hk, hdl⟩ := hst.ob
    have noT : ∀ (a : Str) (b : D), (a, b) ∈ [(("kept_prime" : Str), D.int p), ("kept_rows", .loc dl)] → ¬ ("take" : Str) = a := by
      intro a b hab
      simp at hab
      rcases hab with ⟨rfl, _⟩ | ⟨rfl, _⟩ <;> decide +kernel
    simp
    refine ⟨_, hk, by simpa using noT, ?_⟩
    have hSi : ∀ j, j < w → famL T i j = row.getD j 0 := fun j _ => by
      simp [famL, vecL, List.getD_eq_getElem?_getD, hrow]
    refine (take_spec A (w := w) (S := famL T) hp hp2 hw (by omega) hst hsi (.tup) (hT row (List.mem_of_getElem? hrow)) hSi).imp fun v s2 ⟨hb, E', hst', hsi', hv⟩ => ?_
    refine ⟨_, _, E', rfl, hpre.pre_but hb, hst', hsi', ?_⟩
    simp only [rk]
    rcases hv with ⟨_, h1, h2⟩ | ⟨_, h1, h2⟩
    · rw [if_neg h1, h2, hlen, Nat.add_zero]
    · rw [if_pos h1, h2, hlen]
  · rintro r1 s1 ⟨v3, v4, E, rfl, hpre, hst, hsi, hlen⟩
    have hl2 : (numbered 0 (T.map rowD)).length = T.length := by rw [numbered_length]; simp
    rw [hl2] at hsi hlen
    simp
    exact ⟨hpre, E, hst, hsi, hlen⟩
/-- the values by which a sum is made of sums that are alone -/
structure Sol (p : Int) (w n : Nat) (S : Nat → Vec) (v : Vec) (c : List Int) : Prop where
  len : c.length = n
  bd : ∀ x ∈ c, 0 ≤ x ∧ x < p
  al : ∀ i, i < n → Al p w S i ∨ c.getD i 0 = 0
  eq : ∀ j, j < w → p ∣ v j - sm n fun i => c.getD i 0 * S i j
theorem Sol.uniq {p : Int} {w n : Nat} {S : Nat → Vec} {v : Vec} {c c' : List Int} (hp : Pr p) (h : Sol p w n S v c) (h' : Sol p w n S v c') : c = c' := by
  have key := LA.uniq (w := w) hp (S := S) (n := n) (c := fun i => c.getD i 0 - c'.getD i 0) (fun i hi => by
    rcases h.al i hi with a | a
    · exact .inl a
    · rcases h'.al i hi with b | b
      · exact .inl b
      · exact .inr ⟨0, by rw [a, b]; simp⟩) (fun j hj => by
    have g := sm_lin 1 (-1) (fun i => c.getD i 0 * S i j) (fun i => c'.getD i 0 * S i j) n
    rw [sm_congr (g := fun i => 1 * (c.getD i 0 * S i j) + -1 * (c'.getD i 0 * S i j)) fun i _ => by grind, g]
    exact dvd2 (-1) 1 (h.eq j hj) (h'.eq j hj) (by grind))
  apply List.ext_getElem
  · rw [h.len, h'.len]
  · intro i h1 h2
    have hi : i < n := by rw [← h.len]; exact h1
    have k := key i hi
    have b1 := h.bd _ (List.getElem_mem h1)
    have b2 := h'.bd _ (List.getElem_mem h2)
    have e1 : c.getD i 0 = c[i] := by simp [List.getD_eq_getElem?_getD, List.getElem?_eq_getElem h1]
    have e2 : c'.getD i 0 = c'[i] := by simp [List.getD_eq_getElem?_getD, List.getElem?_eq_getElem h2]
    rw [e1, e2] at k
    obtain ⟨x, hx⟩ := k
    have : x = 0 := by
      by_cases h0 : x = 0
      · exact h0
      · exfalso
        rcases Int.lt_or_gt_of_ne h0 with h3 | h3
        · have := Int.mul_le_mul_of_nonneg_left (show x ≤ -1 by omega) (show 0 ≤ p by omega)
          omega
        · have := Int.mul_le_mul_of_nonneg_left (show 1 ≤ x by omega) (show 0 ≤ p by omega)
          omega
    rw [this] at hx
    omega
end DL
end
/-! ### P15 -/
section
set_option linter.all false
set_option maxRecDepth 100000
/-! P15: made_by, made_of. -/
namespace DL
open PySem PySem.Spec L2
open PyProof.Rows hiding St
open LA
theorem co_filter {f : Int → Int} : ∀ (M : List (Int × Int)) (i : Int), (∀ x, x = 0 → f x = 0) → (keysM M).Nodup → co ((M.filter fun kx => !decide (kx.2 = 0)).map fun kx => (kx.1, f kx.2)) i = f (co M i)
  | [], i, h0, _ => by simp [co, h0 0 rfl]
  | (k, x) :: M, i, h0, hn => by
    simp only [List.map_cons, List.nodup_cons] at hn
    have ih := co_filter M i h0 hn.2
    by_cases hx : x = 0
    · simp only [co]
      rw [List.filter_cons_of_neg (by simp [hx]), ih]
      by_cases hk : k = i
      · rw [if_pos hk, hx]
        rw [co_none (by rw [← hk]; exact hn.1)]
      · rw [if_neg hk]
    · rw [List.filter_cons_of_pos (by simp [hx])]
      simp only [List.map_cons, co]
      by_cases hk : k = i
      · rw [if_pos hk, if_pos hk]
      · rw [if_neg hk, if_neg hk]; exact ih
theorem made_by_spec (A : Str → Addr) {s : Sto} {k w n : Nat} {p : Int} {E : List En} {S : Nat → Vec} {d : D} {xs : List Int} (hp : Pr p) (hp2 : p ≤ 1000) (hw : w ≤ 50) (hst : StAt A s k p E) (h : SI p w S n E) (hd : SeqAt s d (xs.map .int)) (hx : IsRow p w xs) :
    RW (l_Steps_made_by A [.loc k, d] s) fun v s' => Pre s s' ∧ ((v = .non ∧ ¬ Sp p w (upto S n) (vecL xs)) ∨ ∃ m N, v = .loc m ∧ s'[m]? = some (.dct (mdD N)) ∧
      (∀ i : Nat, 0 ≤ co N i ∧ co N i < p) ∧ (∀ i, i < n → Al p w S i ∨ co N i = 0) ∧ ∀ j, j < w → p ∣ vecL xs j - sm n fun i => co N i * S i j) := by
  obtain ⟨⟨dl, hk, hdl⟩, hen⟩ := id hst
  have hpos : 0 < p := by have := hp.two; omega
  unfold l_Steps_made_by
  rw [RW_def]
  refine ⟨rfl, ?_⟩
  rw [SW_seq]
  have p1 : Pre s (s ++ [Ob.dct (mdD [])]) := Pre.refl.push
  have noF : ∀ (a : Str) (b : D), (a, b) ∈ [(("kept_prime" : Str), D.int p), ("kept_rows", .loc dl)] → ¬ ("fallen" : Str) = a := by
    intro a b hab
    simp at hab
    rcases hab with ⟨rfl, _⟩ | ⟨rfl, _⟩ <;> decide +kernel
  simp
  refine ⟨_, hk, by simpa using noF, ?_⟩
  refine (fallen_spec A (md := s.length) (M := []) ⟨hpos, hp2⟩ (by omega) (hst.pre p1) h.rr (hd.pre p1) hx last_of (by simp) (by simp)).imp fun v s1 ⟨q1, l, m, ys, M', e, hl0, hm0, hlm, el, em, hf⟩ => ?_
  subst e
  have p2 : Pre s s1 := p1.trans q1
  simp
  refine (place_spec A (.loc el) (by rw [hf.1.len]; omega)).imp fun v s2 ⟨q2, e⟩ => ?_
  have p3 : Pre s s2 := p2.trans q2
  have hfl := h.left hf
  cases hz : fstNZ 0 ys with
  | some q =>
    rw [hz] at e
    subst e
    obtain ⟨_, hq, hq0, _⟩ := fstNZ_some hz
    have hqw : q < w := by rw [← hf.1.len]; omega
    have hyb := hf.1.at hqw
    simp
    refine ⟨p3, fun hs => ?_⟩
    exact hq0 (by simpa using dvd_small (hfl.mpr hs q hqw) hyb.1 hyb.2)
  | none =>
    rw [hz] at e
    subst e
    simp
    have em2 := q2.get em
    have hkm : k ≠ m := fun e => by
      have := p3.get hk
      rw [e, em2] at this
      cases this
    have hM'n := hf.2.2.1
    refine RW_lock (l := m) (kvs := mdD M') (by simp [lockAt, mVar, em2]) ?_
    simp [set_same em2]
    refine RW.of (dc_pure (f := fun d => match d with | .int i => (.inl i, .int (-(co M' i) % p)) | d => (.inl 0, d)) (b := fun d => match d with | .int i => !decide (co M' i = 0) | _ => false) ?_ ?_ ?_) ?_
    · simp [set_same em2]
    · have := hf.2.2.2.1
      simp
      exact small24 (by simp at this; omega)
    · intro dd hdd
      obtain ⟨kx, hkx, rfl⟩ := List.mem_map.mp hdd
      simp only [Function.comp, keyV]
      have hin : kx.1 ∈ keysM M' := List.mem_map.mpr ⟨kx, hkx, rfl⟩
      refine ⟨_, .int kx.1, rfl, ?_, fun _ => ⟨?_, rfl, ?_⟩⟩
      · apply RW.eq
        simp [wipeD]
        rw [gIx_md (set_same em2) hin]
        simp
      · apply RW.eq; simp [wipeD]
      · apply RW.eq
        simp [wipeD]
        rw [gIx_md (set_same em2) hin]
        simp
        refine ⟨_, _, by rw [set_other (Ne.symm hkm)]; exact p3.get hk, rfl, _, lk_kept_prime, ?_⟩
        simp [hpos]
    obtain ⟨N, hN⟩ : ∃ N, ((M'.filter fun kx => !decide (kx.2 = 0)).map fun kx => (kx.1, -kx.2 % p)) = N := ⟨_, rfl⟩
    have hNn : (keysM N).Nodup := by
      rw [← hN]
      have : keysM ((M'.filter fun kx => !decide (kx.2 = 0)).map fun kx => (kx.1, -kx.2 % p)) = (M'.filter fun kx => !decide (kx.2 = 0)).map (·.1) := by simp
      rw [this]
      exact hM'n.sublist (List.filter_sublist.map _)
    have hfold : List.foldl (fun acc kv => dPut acc kv.fst kv.snd) [] (List.map (fun d => match d with | D.int i => ((Sum.inl i : Key), D.int (-co M' i % p)) | d => (Sum.inl 0, d)) (List.filter (fun d => match d with | D.int i => !decide (co M' i = 0) | x => false) (List.map ((fun kv => keyV kv.fst) ∘ fun kx => ((Sum.inl kx.fst : Key), D.int kx.snd)) M'))) = mdD N := by
      have e1 : (List.map (fun d => match d with | D.int i => ((Sum.inl i : Key), D.int (-co M' i % p)) | d => (Sum.inl 0, d)) (List.filter (fun d => match d with | D.int i => !decide (co M' i = 0) | x => false) (List.map ((fun kv => keyV kv.fst) ∘ fun kx => ((Sum.inl kx.fst : Key), D.int kx.snd)) M'))) = mdD N := by
        rw [← hN, List.filter_map]
        simp only [List.map_map]
        have e2 : List.filter ((fun d => match d with | D.int i => !decide (co M' i = 0) | x => false) ∘ (fun kv => keyV kv.fst) ∘ fun kx => ((Sum.inl kx.fst : Key), D.int kx.snd)) M' = M'.filter fun kx => !decide (kx.2 = 0) := by
          apply List.filter_congr
          intro kx hkx
          simp only [Function.comp, keyV]
          rw [co_mem hM'n hkx]
        rw [e2]
        apply List.map_congr_left
        intro kx hkx
        simp only [Function.comp, keyV]
        rw [co_mem hM'n (List.mem_filter.mp hkx).1]
      rw [e1, foldl_put N [] hNn (by simp)]
      simp
    have hco : ∀ i, co N i = -co M' i % p := fun i => by rw [← hN]; exact co_filter (f := fun x => -x % p) M' i (fun x h => by rw [h]; simp) hM'n
    refine ⟨_, set_same em2, ?_, N, hfold, fun i => ?_, fun i hi => ?_, fun j hj => ?_⟩
    · refine Pre.push (p3.trans ⟨by simp, fun i hi => ?_⟩)
      by_cases h1 : m = i
      · subst h1
        rw [set_same (set_same em2), em2]
      · rw [set_other h1, set_other h1]
    · rw [hco]
      exact ⟨Int.emod_nonneg _ (by omega), Int.emod_lt_of_pos _ hpos⟩
    · by_cases hin : (i : Int) ∈ keysM M'
      · rcases hf.2.2.2.2.1 _ hin with h1 | ⟨e, he, h1⟩
        · simp at h1
        · obtain ⟨i', _, e1, e2⟩ := h.supp e he _ h1
          have : i = i' := by omega
          rw [this]
          exact .inl e2
      · right
        rw [hco, co_none hin]
        simp
    · obtain ⟨_, _, _, _, _, t, ht, htc⟩ := hf
      have hy0 : ys.getD j 0 = 0 := by
        by_cases hjl : j < ys.length
        · have : ys.getD j 0 ∈ ys := by simp [List.getD_eq_getElem?_getD, List.getElem?_eq_getElem hjl]
          exact fstNZ_none.mp hz _ this
        · simp [List.getD_eq_getElem?_getD, List.getElem?_eq_none (show ys.length ≤ j by omega)]
      have g0 := ht j hj
      rw [hy0] at g0
      have g1 : p ∣ sm n (fun i => co N (i : Int) * S i j) - sm n fun i => (sumE E fun e => t e.q * co e.M (i : Int)) * S i j := sm_cong (fun i _ => by
        rw [hco]
        have h1 := htc (i : Int)
        simp only [co] at h1
        have h2 := Int.emod_add_mul_ediv (-co M' (i : Int)) p
        obtain ⟨x, hx⟩ := h1
        exact ⟨-(-co M' (i : Int) / p) - x, by grind⟩)
      rw [sm_sumE (t := fun e => t e.q) (f := fun e i => co e.M (i : Int)) (g := fun i => S i j)] at g1
      have g2 : p ∣ (sumE E fun e => t e.q * e.L.getD j 0) - sumE E fun e => t e.q * sm n fun i => co e.M (i : Int) * S i j := sumE_cong fun e he => dvd1 (t e.q) (h.made e he j hj) (by grind)
      obtain ⟨x0, h0⟩ := g0
      obtain ⟨x1, h1⟩ := g1
      obtain ⟨x2, h2⟩ := g2
      have e0 : xs[j]?.getD 0 = xs.getD j 0 := by simp [List.getD_eq_getElem?_getD]
      rw [e0]
      exact ⟨-x0 - x1 + x2, by grind⟩
/-- what Sp nothing is -/
theorem sp_zero_row {p : Int} {w : Nat} {xs : List Int} (h : IsSm p w xs) : ¬ Sp p w [] (vecL xs) := fun hs => by
  obtain ⟨x, hx, h0⟩ := h.2
  obtain ⟨j, hj⟩ := List.mem_iff_getElem?.mp hx
  have hl : j < w := by rw [← h.1.len]; exact (List.getElem?_eq_some_iff.mp hj).1
  have h1 := hs j hl
  have h2 : vecL xs j = x := by simp [vecL, List.getD_eq_getElem?_getD, hj]
  rw [h2] at h1
  have hb := h.1.bd x hx
  exact h0 (dvd_small h1 hb.1 hb.2)
theorem made_of_spec (A : Str → Addr) {s : Sto} {p : Int} {w : Nat} {T : List (List Int)} {xs : List Int} (hp : Pr p) (hp2 : p ≤ 251) (hw : 1 ≤ w ∧ w ≤ 10) (hl : T.length ≤ 40) (hT : ∀ r ∈ T, IsSm p w r) (hx : IsSm p w xs) :
    RW (l_made_of A [.int p, sumsD T, rowD xs] s) fun v s' => Pre s s' ∧ ((v = .non ∧ ¬ Sp p w (upto (famL T) T.length) (vecL xs)) ∨ ∃ c, v = .tup (c.map .int) ∧ Sol p w T.length (famL T) (vecL xs) c) := by
  unfold l_made_of
  simp [check_sums_ok A hp hp2 hw hl hT, check_sum_ok A hw hT hx]
  by_cases h0 : T = []
  · subst h0
    simp
    exact ⟨Pre.refl, sp_zero_row hx⟩
  · simp [h0]
    refine (steps_spec A hp (by omega) (by omega) (by omega) fun r hr => (hT r hr).1).imp fun v s1 ⟨p1, k, E, e, hk, hst, hsi, _⟩ => ?_
    subst e
    obtain ⟨dl, hk1, _⟩ := hst.ob
    have noM : ∀ (a : Str) (b : D), (a, b) ∈ [(("kept_prime" : Str), D.int p), ("kept_rows", .loc dl)] → ¬ ("made_by" : Str) = a := by
      intro a b hab
      simp at hab
      rcases hab with ⟨rfl, _⟩ | ⟨rfl, _⟩ <;> decide +kernel
    refine ⟨k, rfl, _, hk1, noM, ?_⟩
    refine (made_by_spec A hp (by omega) (by omega) hst hsi .tup hx.1).imp fun v s2 ⟨p2, hv⟩ => ?_
    rcases hv with ⟨rfl, hn⟩ | ⟨m, N, rfl, em, hb, hal, heq⟩
    · simp
      exact ⟨p1.trans p2, hn⟩
    · simp
      refine ⟨by omega, ?_⟩
      refine lc_range0 (f := fun i => .int (co N (i : Int))) (b := fun _ => true) ?_ ?_ ?_ ?_
      · simp
      · exact small24 (by omega)
      · intro i hi
        have hkv : kvsOf s2 m = some (mdD N) := by simp [kvsOf, em]
        simp [wipeD, hkv, keyD, dGet_md]
      · refine ⟨p1.trans p2, (List.range T.length).map fun (i : Nat) => co N (i : Int), ?_, ?_⟩
        · rw [List.filter_eq_self.mpr fun _ _ => rfl, List.map_map]
          rfl
        · have hget : ∀ i, i < T.length → ((List.range T.length).map fun (i : Nat) => co N (i : Int)).getD i 0 = co N (i : Int) := fun i hi => by
            simp [List.getD_eq_getElem?_getD, hi]
          refine ⟨by simp, fun x hx => ?_, fun i hi => ?_, fun j hj => ?_⟩
          · obtain ⟨i, _, rfl⟩ := List.mem_map.mp hx
            exact hb i
          · rw [hget i hi]
            exact hal i hi
          · rw [sm_congr (g := fun i => co N (i : Int) * famL T i j) fun i hi => by rw [hget i hi]]
            exact heq j hj
end DL
end
/-! ### P16 -/
section
set_option linter.all false
set_option maxRecDepth 100000
/-! P16: the law's own: times, inverse, fallen. -/
namespace DL
open PySem PySem.Spec L2
open PyProof.Rows hiding St
open LA
theorem ltimes_spec (A : Str → Addr) {p t : Int} {s : Sto} {d e : D} {xs ys : List Int} (hp : 0 < p) (hd : SeqAt s d (xs.map .int)) (he : SeqAt s e (ys.map .int)) (hl : xs.length ≤ 1000000) (hy : ∀ y ∈ ys, -(2 ^ 64) < y ∧ y < 2 ^ 64) :
    l_law_times A [.int p, d, .int t, e] s = .ok (.loc s.length) (s ++ [.lst ((axpy p xs t ys).map .int)]) := by
  obtain ⟨g1, e1, k1⟩ := hd.src
  obtain ⟨g2, e2, k2⟩ := he.src
  have : RW (l_law_times A [.int p, d, .int t, e] s) fun y s' => s' = s ++ [.lst ((axpy p xs t ys).map .int)] ∧ y = .loc s.length := by
    unfold l_law_times
    simp [e1, e2]
    refine lc_zip2 (F := fun a b => (a + t * b) % p) ?_ ?_ ?_ ?_
    · exact guard_two.mpr ⟨k1, k2⟩
    · exact small24 hl
    · intro a ha b hb
      simp [wipeD]
      rw [gMul_r (hy b hb)]
      simp [hp]
    · simp [axpy]
  obtain ⟨y, s', e, rfl, rfl⟩ := this.get
  exact e
theorem linverse_spec (A : Str → Addr) {p v : Int} {s : Sto} (hp : Pr p) (h2 : p ≤ 1000) (hv : 0 < v ∧ v < p) : RW (l_law_inverse A [.int p, .int v] s) fun d s' => Pre s s' ∧ ∃ b, d = .int b ∧ 0 < b ∧ b < p ∧ b * v % p = 1 := by
  have hp1 := hp.two
  unfold l_law_inverse
  simp
  refine ⟨by omega, ?_⟩
  refine lc_range (f := fun i => .int (1 + (i : Int))) (b := fun i => decide ((1 + (i : Int)) * v % p = 1)) ?_ ?_ ?_ ?_
  · simp
  · exact small24 (by omega)
  · intro i hi
    have hb : -(2 ^ 64) < v ∧ v < 2 ^ 64 := by omega
    have hp0 : 0 < p := by omega
    simp [wipeD]
    rw [gMul_r hb]
    simp [hp0]
    omega
  · obtain ⟨b, hb⟩ := hp.inv (a := v) (fun hd => by
      have := Int.le_of_dvd hv.1 hd
      omega)
    have hb1 : v * (b % p) % p = 1 := by
      obtain ⟨k, hk⟩ := hb
      have e := Int.emod_add_mul_ediv b p
      have : v * (b % p) = 1 + p * (k - v * (b / p)) := by grind
      rw [this, Int.add_mul_emod_self_left]
      exact Int.emod_eq_of_lt (by omega) (by omega)
    have hr0 := Int.emod_nonneg b (show p ≠ 0 by omega)
    have hr1 := Int.emod_lt_of_pos b (show 0 < p by omega)
    have hr2 : b % p ≠ 0 := fun e => by rw [e] at hb1; simp at hb1
    have hne : (List.range (p.toNat - 1)).filter (fun (i : Nat) => decide ((1 + (i : Int)) * v % p = 1)) ≠ [] := by
      intro e
      have hm : (b % p - 1).toNat ∈ (List.range (p.toNat - 1)).filter (fun (i : Nat) => decide ((1 + (i : Int)) * v % p = 1)) := by
        rw [List.mem_filter]
        refine ⟨by simp; omega, ?_⟩
        have : (1 + ((b % p - 1).toNat : Int)) = b % p := by omega
        rw [this, Int.mul_comm]
        simpa using hb1
      rw [e] at hm
      cases hm
    generalize hps : (List.range (p.toNat - 1)).filter (fun (i : Nat) => decide ((1 + (i : Int)) * v % p = 1)) = ps at hne
    cases ps with
    | nil => exact absurd rfl hne
    | cons i ps =>
      have hi : i ∈ (List.range (p.toNat - 1)).filter (fun (i : Nat) => decide ((1 + (i : Int)) * v % p = 1)) := by rw [hps]; exact List.mem_cons_self
      rw [List.mem_filter] at hi
      simp at hi
      simp
      exact ⟨Pre.refl.push, by omega, by omega, hi.2⟩
/-- a step of the law's: the row, where it stands -/
structure Ls where
  q : Nat
  l : Nat
  L : List Int
abbrev lsD (e : Ls) : D := .tup [.int (e.q : Int), .loc e.l]
abbrev rowsL (R : List Ls) : List (Nat × Vec) := R.map fun e => (e.q, vecL e.L)
abbrev srtL (R : List Ls) : List Ls := sortK (fun e => (e.q : Int)) R
theorem sortK_map {α β : Type} {k : β → Int} {f : α → β} : ∀ xs : List α, sortK k (xs.map f) = (sortK (fun x => k (f x)) xs).map f
  | [] => rfl
  | x :: xs => by
    have ins : ∀ ys : List α, insK k (f x) (ys.map f) = (insK (fun x => k (f x)) x ys).map f := by
      intro ys
      induction ys with
      | nil => rfl
      | cons y ys ih =>
        simp only [List.map_cons, insK]
        split
        · rfl
        · simp only [List.map_cons, ih]
    simp only [List.map_cons, sortK, sortK_map xs, ins]
theorem fsts_ls : ∀ R : List Ls, fsts (R.map lsD) = some (R.map fun e => (e.q : Int))
  | [] => rfl
  | e :: R => by simp [fsts, fstD, fsts_ls R]
theorem gSrt_ls {s : Sto} {n : Nat} {R : List Ls} (h : s[n]? = some (.lst (R.map lsD))) (hn : (R.map (·.q)).Nodup) : gSrt [.loc n] s = some ((srtL R).map lsD) := by
  have h1 : gSorted [.loc n] s = (intsD (R.map lsD)).map fun ns => (isort ns).map .int := by simp [gSorted, h]
  have hnd : (R.map fun e => (e.q : Int)).Nodup := by
    have : R.map (fun e => (e.q : Int)) = (R.map (·.q)).map fun (n : Nat) => (n : Int) := by rw [List.map_map]; rfl
    rw [this]
    exact map_nodup hn fun x _ y _ h => by omega
  unfold gSrt
  rw [h1]
  cases R with
  | nil => rfl
  | cons e R =>
    have e1 : intsD ((e :: R).map lsD) = none := rfl
    rw [e1]
    simp only [Option.map_none]
    have e2 : gSortedP [.loc n] s = some (sortK keyP ((e :: R).map lsD)) := by
      simp only [gSortedP, h, fsts_ls, Option.bind_some]
      rw [if_pos hnd]
    rw [e2, sortK_map]
    rfl
theorem fall_congr {p : Int} {w : Nat} : ∀ {R : List (Nat × Vec)} {u v : Vec}, (∀ x ∈ R, x.1 < w) → (∀ j, j < w → p ∣ u j - v j) → ∀ j, j < w → p ∣ fall R u j - fall R v j
  | [], u, v, _, h, j, hj => h j hj
  | (q, L) :: R, u, v, hq, h, j, hj => by
    have h1 := h q (hq (q, L) List.mem_cons_self)
    exact fall_congr (fun x hx => hq x (List.mem_cons_of_mem _ hx)) (fun j hj => dvd2 1 (-(L j)) (h j hj) h1 (by grind)) j hj
theorem axpy_at {p t : Int} {w : Nat} {xs ys : List Int} (h1 : IsRow p w xs) (h2 : IsRow p w ys) {j : Nat} (hj : j < w) : p ∣ (axpy p xs t ys).getD j 0 - (xs.getD j 0 + t * ys.getD j 0) := by
  unfold axpy
  rw [getD_zw (by rw [h1.len]; exact hj) (by rw [h2.len]; exact hj)]
  have := Int.emod_add_mul_ediv (xs.getD j 0 + t * ys.getD j 0) p
  exact ⟨-((xs.getD j 0 + t * ys.getD j 0) / p), by grind⟩
/-- in the midst of the law's fallen -/
def LFIn (s0 : Sto) (p : Int) (w nn : Nat) (Rs : List Ls) (xs : List Int) (i : Nat) (r : Env) (s : Sto) : Prop :=
  ∃ (l : Nat) (ys : List Int) (v3 v4 : Option D), r = [some (.int p), some (.loc nn), some (.loc l), v3, v4] ∧ Pre s0 s ∧ s0.length ≤ l ∧ s[l]? = some (.lst (ys.map .int)) ∧ IsRow p w ys ∧ s[s0.length + 1]? = some (.lst (Rs.map lsD)) ∧
    ∀ j, j < w → p ∣ fall (rowsL (Rs.drop i)) (vecL ys) j - fall (rowsL Rs) (vecL xs) j
theorem lfallen_spec (A : Str → Addr) {p : Int} {w nn : Nat} {s : Sto} {R : List Ls} {d : D} {xs : List Int} (hp : 0 < p ∧ p ≤ 1000) (hw : w ≤ 1000) (hnn : s[nn]? = some (.lst (R.map lsD))) (hR : (R.map (·.q)).Nodup)
    (hrow : ∀ e ∈ R, e.q < w ∧ IsRow p w e.L ∧ s[e.l]? = some (.lst (e.L.map .int))) (hd : SeqAt s d (xs.map .int)) (hx : IsRow p w xs) :
    RW (l_law_fallen A [.int p, .loc nn, d] s) fun v s' => Pre s s' ∧ ∃ l ys, v = .loc l ∧ s.length ≤ l ∧ s'[l]? = some (.lst (ys.map .int)) ∧ IsRow p w ys ∧ ∀ j, j < w → p ∣ ys.getD j 0 - fall (rowsL (srtL R)) (vecL xs) j := by
  unfold l_law_fallen
  rw [RW_def]
  refine ⟨rfl, ?_⟩
  have hgl : gList [d] s = some (xs.map .int) := by
    rcases hd with rfl | ⟨n, rfl, h⟩
    · rfl
    · simp [gList, h]
  have p1 : Pre s (s ++ [Ob.lst (xs.map .int)]) := Pre.refl.push
  have hperm : (srtL R).Perm R := sortK_perm _ R
  simp [hgl, gSrt_ls (p1.get hnn) hR]
  have hmem : ∀ e, e ∈ srtL R → e ∈ R := fun e he => hperm.mem_iff.mp he
  generalize srtL R = Rs at hmem ⊢
  have p2 : Pre s (s ++ [Ob.lst (xs.map .int), Ob.lst (Rs.map lsD)]) := Pre.refl.push
  refine SW_forGo (LFIn s p w nn Rs xs) ?_ ?_ ?_ ?_
  · refine ⟨s.length, xs, none, none, rfl, p2, Nat.le_refl _, ?_, hx, ?_, fun j hj => ⟨0, by simp⟩⟩
    · rw [List.getElem?_append_right (by omega)]; simp
    · rw [List.getElem?_append_right (by omega)]; simp
  · rintro i r1 s1 _ ⟨l, ys, v3, v4, rfl, hpre, hl, el, hrow2, hg, _⟩
    simpa using hg
  · rintro i dd r1 s1 hdd ⟨l, ys, v3, v4, rfl, hpre, hl, el, hrow2, hg, hf⟩
    rw [List.getElem?_map, Option.map_eq_some_iff] at hdd
    obtain ⟨e, hei, rfl⟩ := hdd
    have hil : i < Rs.length := (List.getElem?_eq_some_iff.mp hei).1
    have hee : Rs[i] = e := (List.getElem?_eq_some_iff.mp hei).2
    obtain ⟨hqw, hLr, hLl⟩ := hrow e (hmem e (List.mem_of_getElem? hei))
    have hdrop : Rs.drop i = e :: Rs.drop (i + 1) := by rw [List.drop_eq_getElem_cons hil, hee]
    have eq0 : gIx (.loc l) (.int (e.q : Int)) s1 = some (.int (ys.getD e.q 0), s1) := by rw [gIx_lst el, at_row hrow2.len hqw]; rfl
    have htb := hrow2.at hqw
    obtain ⟨tv, htv⟩ : ∃ tv, ys.getD e.q 0 = tv := ⟨_, rfl⟩
    rw [htv] at eq0 htb
    have hlt : ∀ x ∈ rowsL (Rs.drop (i + 1)), x.1 < w := fun x hx => by
      obtain ⟨e', he', rfl⟩ := List.mem_map.mp hx
      exact (hrow e' (hmem e' (List.mem_of_mem_drop he'))).1
    rw [hdrop] at hf
    simp [eq0]
    by_cases hz : tv = 0
    · left
      refine ⟨hz, l, ys, _, _, rfl, hpre, hl, el, hrow2, hg, fun j hj => ?_⟩
      have h1 := hf j hj
      have h2 : fall (rowsL (e :: Rs.drop (i + 1))) (vecL ys) = fall (rowsL (Rs.drop (i + 1))) (fun j => vecL ys j - vecL ys e.q * vecL e.L j) := rfl
      rw [h2] at h1
      have h3 : (fun j => vecL ys j - vecL ys e.q * vecL e.L j) = vecL ys := by
        funext j
        have : vecL ys e.q = 0 := by rw [← hz, ← htv]
        rw [this]
        simp
      rw [h3] at h1
      exact h1
    · right
      refine ⟨hz, ?_⟩
      rw [ltimes_spec A hp.1 (.loc el) (.loc (hpre.get hLl)) (by rw [hrow2.len]; omega) (hLr.small' hp.2)]
      have hle := len_of el
      refine ⟨s1.length, axpy p ys (p - tv) e.L, _, _, rfl, hpre.push, by omega, last_of, hrow2.axpy hp.1 hLr, by rw [List.getElem?_append_left (len_of hg)]; exact hg, fun j hj => ?_⟩
      have h1 := hf j hj
      have h2 : fall (rowsL (e :: Rs.drop (i + 1))) (vecL ys) = fall (rowsL (Rs.drop (i + 1))) (fun j => vecL ys j - vecL ys e.q * vecL e.L j) := rfl
      rw [h2] at h1
      have h3 := fall_congr (p := p) (w := w) (R := rowsL (Rs.drop (i + 1))) (u := vecL (axpy p ys (p - tv) e.L)) (v := fun j => vecL ys j - vecL ys e.q * vecL e.L j) hlt (fun j hj => by
        obtain ⟨k, hk⟩ := axpy_at (t := p - tv) hrow2 hLr hj
        have e1 : vecL ys e.q = tv := htv
        rw [e1]
        exact ⟨k + e.L.getD j 0, by simp only [vecL]; grind⟩) j hj
      exact dvd2 1 1 h1 h3 (by grind)
  · rintro r1 s1 ⟨l, ys, v3, v4, rfl, hpre, hl, el, hrow2, hg, hf⟩
    simp
    refine ⟨hpre, hl, ys, el, hrow2, fun j hj => ?_⟩
    have h1 := hf j hj
    simp only [List.length_map] at h1
    rw [List.drop_length] at h1
    simpa [fall, List.getD_eq_getElem?_getD] using h1
end DL
end
/-! ### P17 -/
section
set_option linter.all false
set_option maxRecDepth 100000
/-! P17: the law's taken. -/
namespace DL
open PySem PySem.Spec L2
open PyProof.Rows hiding St
open LA
/-- the law's rows: each 0 ahead of its place, there 1; they make what the first n sums make -/
structure LI (p : Int) (w : Nat) (S : Nat → Vec) (n : Nat) (R : List Ls) : Prop where
  few : R.length ≤ n
  nd : (R.map (·.q)).Nodup
  row : ∀ e ∈ R, IsRow p w e.L
  lt : ∀ e ∈ R, e.q < w
  one : ∀ e ∈ R, p ∣ e.L.getD e.q 0 - 1
  low : ∀ e ∈ R, ∀ j, j < e.q → p ∣ e.L.getD j 0
  up : ∀ e ∈ R, Sp p w (upto S n) (vecL e.L)
  down : ∀ i, i < n → Sp p w (R.map fun e => vecL e.L) (S i)
section
variable {p : Int} {w n : Nat} {S : Nat → Vec} {R : List Ls}
theorem LI.nil : LI p w S 0 [] := ⟨by simp, by simp, by simp, by simp, by simp, by simp, by simp, fun i hi => by omega⟩
theorem tri_sorted : ∀ {Rs : List Ls}, Rs.Pairwise (fun a b => a.q < b.q) → (∀ e ∈ Rs, e.q < w) → (∀ e ∈ Rs, p ∣ e.L.getD e.q 0 - 1) → (∀ e ∈ Rs, ∀ j, j < e.q → p ∣ e.L.getD j 0) → Tri p w (rowsL Rs)
  | [], _, _, _, _ => trivial
  | e :: Rs, hs, h1, h2, h3 => by
    rw [List.pairwise_cons] at hs
    refine ⟨h1 e List.mem_cons_self, h2 e List.mem_cons_self, fun x hx => ?_, tri_sorted hs.2 (fun e he => h1 e (List.mem_cons_of_mem _ he)) (fun e he => h2 e (List.mem_cons_of_mem _ he)) (fun e he => h3 e (List.mem_cons_of_mem _ he))⟩
    obtain ⟨e', he', rfl⟩ := List.mem_map.mp hx
    exact h3 e' (List.mem_cons_of_mem _ he') e.q (hs.1 e' he')
theorem srtL_lt (h : (R.map (·.q)).Nodup) : (srtL R).Pairwise (fun a b => a.q < b.q) := by
  have h1 := sortK_sorted (fun e : Ls => (e.q : Int)) R
  have h2 : ((srtL R).map (·.q)).Nodup := ((sortK_perm (fun e : Ls => (e.q : Int)) R).map (·.q)).nodup_iff.mpr h
  rw [List.nodup_iff_pairwise_ne, List.pairwise_map] at h2
  exact (h1.and h2).imp fun {a b} ⟨x, y⟩ => by omega
theorem mem_srtL {e : Ls} : e ∈ srtL R ↔ e ∈ R := (sortK_perm (fun e : Ls => (e.q : Int)) R).mem_iff
theorem LI.tri (h : LI p w S n R) : Tri p w (rowsL (srtL R)) := tri_sorted (srtL_lt h.nd) (fun e he => h.lt e (mem_srtL.mp he)) (fun e he => h.one e (mem_srtL.mp he)) (fun e he => h.low e (mem_srtL.mp he))
theorem vs_rowsL {R : List Ls} : vs (rowsL R) = R.map fun e => vecL e.L := by simp [vs]
theorem LI.left (h : LI p w S n R) {v : Vec} : Z p w (fall (rowsL (srtL R)) v) ↔ Sp p w (upto S n) v := by
  rw [fall_iff h.tri, vs_rowsL]
  constructor
  · exact fun hv => Sp.trans (fun L hL => by
      obtain ⟨e, he, rfl⟩ := List.mem_map.mp hL
      exact h.up e (mem_srtL.mp he)) hv
  · intro hv
    have h1 : Sp p w (R.map fun e => vecL e.L) v := Sp.trans (fun L hL => by
      obtain ⟨i, hi, rfl⟩ := List.mem_map.mp hL
      exact h.down i (List.mem_range.mp hi)) hv
    exact h1.mono fun L hL => by
      obtain ⟨e, he, rfl⟩ := List.mem_map.mp hL
      exact List.mem_map.mpr ⟨e, mem_srtL.mpr he, rfl⟩
theorem LI.step (h : LI p w S n R) (hn : Sp p w (upto S n) (S n)) : LI p w S (n + 1) R := by
  refine ⟨by have := h.few; omega, h.nd, h.row, h.lt, h.one, h.low, fun e he => (h.up e he).mono fun L hL => by rw [upto_succ]; exact List.mem_append_left _ hL, fun i hi => ?_⟩
  by_cases e : i < n
  · exact h.down i e
  · have : i = n := by omega
    subst this
    exact Sp.trans (fun L hL => by
      obtain ⟨j, hj, rfl⟩ := List.mem_map.mp hL
      exact h.down j (List.mem_range.mp hj)) hn
/-- a new row: what was left, made 1 at its first place -/
theorem LI.new (h : LI p w S n R) (hp : Pr p) {v : Vec} {ys : List Int} {e : Ls} {b : Int} (hv : ∀ j, j < w → S n j = v j) (hy : IsRow p w ys) (hf : ∀ j, j < w → p ∣ ys.getD j 0 - fall (rowsL (srtL R)) v j)
    (hq : e.q < w) (h0 : ys.getD e.q 0 ≠ 0) (hlo : ∀ j, j < e.q → ys.getD j 0 = 0) (hb : p ∣ b * ys.getD e.q 0 - 1) (hrow : IsRow p w e.L) (hL : ∀ j, j < w → p ∣ e.L.getD j 0 - b * ys.getD j 0) : LI p w S (n + 1) (R ++ [e]) := by
  obtain ⟨a1, a2⟩ := fall_spec (v := v) h.tri
  rw [vs_rowsL] at a2
  have hpos : 0 < p := by have := hp.two; omega
  have hnew : ∀ e' ∈ R, e'.q ≠ e.q := fun e' he' heq => by
    have h1 := a1 (e'.q, vecL e'.L) (List.mem_map.mpr ⟨e', mem_srtL.mpr he', rfl⟩)
    have h2 := hf e'.q (h.lt e' he')
    have h3 : p ∣ ys.getD e'.q 0 := dvd2 1 1 h1 h2 (by grind)
    rw [heq] at h3
    have hb := hy.at hq
    exact h0 (dvd_small h3 hb.1 hb.2)
  have hmade : Sp p w (upto S n) (fun j => v j - fall (rowsL (srtL R)) v j) := Sp.trans (fun L hL => by
      obtain ⟨e', he', rfl⟩ := List.mem_map.mp hL
      exact h.up e' (mem_srtL.mp he')) a2
  have hmade2 : Sp p w (R.map fun e => vecL e.L) (fun j => v j - fall (rowsL (srtL R)) v j) := a2.mono fun L hL => by
      obtain ⟨e', he', rfl⟩ := List.mem_map.mp hL
      exact List.mem_map.mpr ⟨e', mem_srtL.mp he', rfl⟩
  refine ⟨by have := h.few; simp; omega, ?_, fun e' he' => ?_, fun e' he' => ?_, fun e' he' => ?_, fun e' he' j hj => ?_, fun e' he' => ?_, fun i hi => ?_⟩
  · rw [List.map_append, List.nodup_append]
    refine ⟨h.nd, by simp, fun x hx y hy => ?_⟩
    obtain ⟨e', he', rfl⟩ := List.mem_map.mp hx
    simp at hy
    rw [hy]
    exact hnew e' he'
  · rcases List.mem_append.mp he' with h1 | h1
    · exact h.row e' h1
    · rw [List.mem_singleton.mp h1]; exact hrow
  · rcases List.mem_append.mp he' with h1 | h1
    · exact h.lt e' h1
    · rw [List.mem_singleton.mp h1]; exact hq
  · rcases List.mem_append.mp he' with h1 | h1
    · exact h.one e' h1
    · rw [List.mem_singleton.mp h1]
      exact dvd2 1 1 (hL e.q hq) hb (by grind)
  · rcases List.mem_append.mp he' with h1 | h1
    · exact h.low e' h1 j hj
    · rw [List.mem_singleton.mp h1] at hj ⊢
      have h2 := hL j (by omega)
      rw [hlo j hj] at h2
      simpa using h2
  · rcases List.mem_append.mp he' with h1 | h1
    · exact (h.up e' h1).mono fun L hL => by rw [upto_succ]; exact List.mem_append_left _ hL
    · rw [List.mem_singleton.mp h1, upto_succ]
      have s1 : Sp p w (upto S n ++ [S n]) (fun j => v j - fall (rowsL (srtL R)) v j) := hmade.mono fun L hL => List.mem_append_left _ hL
      have s2 : Sp p w (upto S n ++ [S n]) (S n) := Sp.mem (by simp)
      have s3 := (s2.sub s1).smul b
      refine s3.congr fun j hj => ?_
      have g1 := hL j hj
      have g2 := hf j hj
      have g3 := hv j hj
      exact dvd2 (-1) (-b) g1 g2 (by simp only [vecL]; grind)
  · rw [List.map_append, List.map_singleton]
    by_cases e0 : i < n
    · exact (h.down i e0).mono fun L hL => List.mem_append_left _ hL
    · have : i = n := by omega
      subst this
      refine Sp.snoc.mpr ⟨ys.getD e.q 0, hmade2.congr fun j hj => ?_⟩
      have g1 := hL j hj
      have g2 := hf j hj
      have g3 := hv j hj
      exact dvd3 1 (ys.getD e.q 0) (ys.getD j 0) g2 g1 hb (by simp only [vecL]; grind)
end
end DL
end
/-! ### P18 -/
section
set_option linter.all false
set_option maxRecDepth 100000
/-! P18: the law's taken: the walk. -/
namespace DL
open PySem PySem.Spec L2
open PyProof.Rows hiding St
open LA
open Classical in
/-- which of the first n are not made of those ahead -/
noncomputable def alL (p : Int) (w : Nat) (S : Nat → Vec) (n : Nat) : List Nat := (List.range n).filter fun i => decide (Al p w S i)
theorem alL_yes {p : Int} {w n : Nat} {S : Nat → Vec} (h : Al p w S n) : alL p w S (n + 1) = alL p w S n ++ [n] := by
  unfold alL
  rw [List.range_succ, List.filter_append]
  simp [h]
theorem alL_no {p : Int} {w n : Nat} {S : Nat → Vec} (h : ¬ Al p w S n) : alL p w S (n + 1) = alL p w S n := by
  unfold alL
  rw [List.range_succ, List.filter_append]
  simp [h]
theorem alL_mem {p : Int} {w n i : Nat} {S : Nat → Vec} : i ∈ alL p w S n ↔ i < n ∧ Al p w S i := by
  unfold alL
  rw [List.mem_filter]
  simp
theorem alL_len {p : Int} {w n : Nat} {S : Nat → Vec} : (alL p w S n).length ≤ n := by
  unfold alL
  exact Nat.le_trans (List.length_filter_le _ _) (by simp)
abbrev natsD (l : List Nat) : List D := l.map fun (i : Nat) => D.int (i : Int)
theorem natsD_app {l : List Nat} {n : Nat} : natsD l ++ [D.int (n : Int)] = natsD (l ++ [n]) := by simp
theorem lsD_app {R : List Ls} {e : Ls} : R.map lsD ++ [D.tup [.int (e.q : Int), .loc e.l]] = (R ++ [e]).map lsD := by simp
/-- what the law's taken keeps -/
structure TkAt (s : Sto) (f k : Nat) (p : Int) (w : Nat) (S : Nat → Vec) (n : Nat) (R : List Ls) : Prop where
  hf : s[f]? = some (.lst (natsD (alL p w S n)))
  hk : s[k]? = some (.lst (R.map lsD))
  en : ∀ e ∈ R, s[e.l]? = some (.lst (e.L.map .int)) ∧ e.l ≠ f ∧ e.l ≠ k
  li : LI p w S n R
theorem TkAt.pre {s s1 : Sto} {f k : Nat} {p : Int} {w : Nat} {S : Nat → Vec} {n : Nat} {R : List Ls} (h : TkAt s f k p w S n R) (a : Pre s s1) : TkAt s1 f k p w S n R :=
  ⟨a.get h.hf, a.get h.hk, fun e he => ⟨a.get (h.en e he).1, (h.en e he).2⟩, h.li⟩
theorem getD_mp {f : Int → Int} {xs : List Int} {j : Nat} (h : j < xs.length) : (xs.map f).getD j 0 = f (xs.getD j 0) := by
  simp [List.getD_eq_getElem?_getD, List.getElem?_eq_getElem h]
def TkIn (s : Sto) (p : Int) (w : Nat) (T : List (List Int)) (i : Nat) (r : Env) (s1 : Sto) : Prop :=
  ∃ (v4 v5 v6 v7 v8 v9 v10 : Option D) (R : List Ls), r = [some (.int p), some (sumsD T), some (.loc s.length), some (.loc (s.length + 1)), v4, v5, v6, v7, v8, v9, v10] ∧ Pre s s1 ∧ TkAt s1 s.length (s.length + 1) p w (famL T) i R
theorem ltaken_spec (A : Str → Addr) {s : Sto} {p : Int} {w : Nat} {T : List (List Int)} (hp : Pr p) (hp2 : p ≤ 1000) (hw : w ≤ 50) (hl : T.length < 90) (hT : ∀ r ∈ T, IsRow p w r) :
    RW (l_law_taken A [.int p, sumsD T] s) fun v s' => Pre s s' ∧ ∃ R, v = .tup [.loc s.length, .loc (s.length + 1)] ∧ TkAt s' s.length (s.length + 1) p w (famL T) T.length R := by
  have hpos : 0 < p := by have := hp.two; omega
  unfold l_law_taken
  rw [RW_def]
  refine ⟨rfl, ?_⟩
  simp
  have p0 : Pre s (s ++ [Ob.lst [], Ob.lst []]) := Pre.refl.push
  refine SW_forGo (TkIn s p w T) ?_ ?_ ?_ ?_
  · refine ⟨_, _, _, _, _, _, _, [], rfl, p0, ⟨?_, ?_, by simp, LI.nil⟩⟩
    · rw [List.getElem?_append_right (by omega)]; simp [alL]
    · rw [List.getElem?_append_right (by omega)]; simp
  · intros; simp
  · rintro i dd r1 s1 hdd ⟨v4, v5, v6, v7, v8, v9, v10, R, rfl, hpre, hst⟩
    obtain ⟨x, hx, rfl⟩ := numbered_at hdd
    rw [List.getElem?_map, Option.map_eq_some_iff] at hx
    obtain ⟨row, hrow, rfl⟩ := hx
    have hrl : i < T.length := (List.getElem?_eq_some_iff.mp hrow).1
    have hrr := hT row (List.mem_of_getElem? hrow)
    have hSi : ∀ j, j < w → famL T i j = row.getD j 0 := fun j _ => by
      simp [famL, vecL, List.getD_eq_getElem?_getD, hrow]
    have hli := hst.li
    simp
    refine (lfallen_spec A ⟨hpos, hp2⟩ (by omega) hst.hk hli.nd (fun e he => ⟨hli.lt e he, hli.row e he, (hst.en e he).1⟩) .tup hrr).imp fun v s2 ⟨q2, l, ys, e, hl2, el, hyr, hyf⟩ => ?_
    subst e
    have hst2 := hst.pre q2
    have p2 := hpre.trans q2
    have hlt := len_of hst.hk
    have hltf := len_of hst.hf
    have hyl : ys.length = w := hyr.len
    obtain ⟨g1, e1, k1⟩ := (SeqAt.loc el).src
    simp [e1]
    refine lc_enum (f := fun x i => .int i) (b := fun x i => !decide (x = 0)) ?_ ?_ ?_ ?_
    · exact k1
    · exact small24 (by omega)
    · intro x i hx
      simp [wipeD]
      exact Decidable.em _
    · have hh := head_places ys 0
      have hfree : ∀ (x : Ob), (s2 ++ [x])[l]? = some (.lst (ys.map .int)) := fun x => by rw [List.getElem?_append_left (len_of el)]; exact el
      generalize hps : (ys.zipIdx.filter fun q => !decide (q.1 = 0)) = ps at hh
      cases ps with
      | nil =>
        simp
        simp at hh
        have hall := fstNZ_none.mp hh.symm
        have hz : Z p w (fall (rowsL (srtL R)) (vecL row)) := fun j hj => by
          have h1 := hyf j hj
          have h2 : ys.getD j 0 = 0 := hall _ (by
            have : ys.getD j 0 = ys[j]'(by omega) := by simp [List.getD_eq_getElem?_getD, List.getElem?_eq_getElem (show j < ys.length by omega)]
            rw [this]; exact List.getElem_mem _)
          rw [h2] at h1
          exact dvd1 (-1) h1 (by grind)
        have hsp : Sp p w (upto (famL T) i) (famL T i) := (hli.left.mp hz).eq fun j hj => (hSi j hj).symm
        refine ⟨_, _, _, _, _, _, _, R, rfl, p2.push, ⟨?_, (hst2.pre Pre.refl.push).hk, (hst2.pre Pre.refl.push).en, hli.step hsp⟩⟩
        rw [alL_no (fun h => h hsp)]
        exact (hst2.pre Pre.refl.push).hf
      | cons q ps =>
        simp at hh
        obtain ⟨_, hq, hq0, hlo⟩ := fstNZ_some hh.symm
        simp at hq0 hlo
        have hqw : q.2 < w := by omega
        have hyb := hyr.at hqw
        have g0 : gIx (.loc l) (.int (q.2 : Int)) (s2 ++ [Ob.lst (List.map (fun q => D.int (q.2 : Int)) (q :: ps))]) = some (.int (ys.getD q.2 0), s2 ++ [Ob.lst (List.map (fun q => D.int (q.2 : Int)) (q :: ps))]) := by
          rw [gIx_lst (hfree _), at_row hyl hqw]; rfl
        obtain ⟨tv, htv⟩ : ∃ tv, ys.getD q.2 0 = tv := ⟨_, rfl⟩
        rw [htv] at g0 hyb
        have htv0 : tv ≠ 0 := by rw [← htv]; simpa using hq0
        simp at g0
        simp [g0]
        refine (linverse_spec A hp hp2 ⟨by omega, hyb.2⟩).imp fun v s3 ⟨q3, b, e, hb0, hbp, hb1⟩ => ?_
        subst e
        have p3 : Pre s2 s3 := Pre.trans Pre.refl.push q3
        have hst3 := hst2.pre p3
        have el3 := p3.get el
        have gp : gIx (.loc s2.length) (.int 0) s3 = some (.int (q.2 : Int), s3) := by
          rw [gIx_lst (q3.get last_of)]
          simp [atI, ixN]
        obtain ⟨g3, e3, k3⟩ := (SeqAt.loc el3).src
        simp [itL, hst3.hk, gp, e3]
        refine lc_ints (f := fun x => .int (b * x % p)) (b := fun _ => true) ?_ ?_ ?_ ?_
        · exact k3
        · exact small24 (by omega)
        · intro x hx
          simp [wipeD]
          rw [gMul_r (hyr.small' hp2 x hx)]
          simp [hpos]
        · rw [List.filter_eq_self.mpr fun _ _ => rfl]
          have e4 : ys.map (fun x => D.int (b * x % p)) = (ys.map fun x => b * x % p).map .int := by rw [List.map_map]; rfl
          rw [e4]
          obtain ⟨L', hL'⟩ : ∃ L', (ys.map fun x => b * x % p) = L' := ⟨_, rfl⟩
          rw [hL']
          have hst4 := hst3.pre (Pre.refl.push (q := [Ob.lst (L'.map .int)]))
          have hk3 := len_of hst3.hk
          have hf3 := len_of hst3.hf
          have hk4 := len_of hst4.hk
          have hf4 := len_of hst4.hf
          have hfew := hli.few
          refine ⟨small24 (by omega), ?_⟩
          rw [append_lst hst4.hk (by rw [List.length_map]; exact small24' (by omega))]
          simp
          have hf5 : ((s3 ++ [Ob.lst (L'.map .int)]).set (s.length + 1) (Ob.lst (R.map lsD ++ [D.tup [.int (q.2 : Int), .loc s3.length]])))[s.length]? = some (.lst (natsD (alL p w (famL T) i))) := by rw [set_other (by omega)]; exact hst4.hf
          refine ⟨by rw [hst4.hf]; rfl, ?_⟩
          rw [append_lst hf5 (by rw [List.length_map]; exact small24' (by have := alL_len (p := p) (w := w) (n := i) (S := famL T); omega))]
          simp
          have hal : Al p w (famL T) i := fun hsp => by
            have hz := hli.left.mpr (hsp.eq (v := vecL row) fun j hj => hSi j hj)
            have h1 := hyf q.2 hqw
            have h2 : p ∣ ys.getD q.2 0 := dvd2 1 1 h1 (hz q.2 hqw) (by grind)
            rw [htv] at h2
            exact htv0 (dvd_small h2 hyb.1 hyb.2)
          have hLat : ∀ j, j < w → L'.getD j 0 = b * ys.getD j 0 % p := fun j hj => by rw [← hL']; exact getD_mp (by omega)
          refine ⟨_, _, _, _, _, _, _, R ++ [⟨q.2, s3.length, L'⟩], rfl, ?_, ⟨?_, ?_, fun e he => ?_, ?_⟩⟩
          · exact (((p2.trans p3).push).set (by omega)).set (by omega)
          · rw [set_same hf5, natsD_app, ← alL_yes hal]
          · rw [set_other (by omega), set_same hst4.hk]
            simp
          · rcases List.mem_append.mp he with h1 | h1
            · obtain ⟨a1, a2, a3⟩ := hst4.en e h1
              exact ⟨by rw [set_other (Ne.symm a2), set_other (Ne.symm a3)]; exact a1, a2, a3⟩
            · rw [List.mem_singleton.mp h1]
              refine ⟨?_, by show s3.length ≠ _; omega, by show s3.length ≠ _; omega⟩
              show (((s3 ++ [Ob.lst (L'.map .int)]).set (s.length + 1) _).set s.length _)[s3.length]? = _
              rw [set_other (by omega), set_other (by omega)]
              exact last_of
          · refine hli.new hp (v := vecL row) (ys := ys) (b := b) hSi hyr hyf hqw (by rw [htv]; exact htv0) (fun j hj => ?_) ?_ ⟨?_, fun x hx => ?_⟩ fun j hj => ?_
            · have := hlo j hj
              simpa [List.getD_eq_getElem?_getD] using this
            · rw [htv]
              have := Int.emod_add_mul_ediv (b * tv) p
              exact ⟨b * tv / p, by omega⟩
            · rw [← hL']; simp [hyl]
            · rw [← hL'] at hx
              obtain ⟨x', _, rfl⟩ := List.mem_map.mp hx
              exact ⟨Int.emod_nonneg _ (by omega), Int.emod_lt_of_pos _ hpos⟩
            · rw [hLat j hj]
              have := Int.emod_add_mul_ediv (b * ys.getD j 0) p
              exact ⟨-(b * ys.getD j 0 / p), by grind⟩
  · rintro r1 s1 ⟨v4, v5, v6, v7, v8, v9, v10, R, rfl, hpre, hst⟩
    have hl2 : (numbered 0 (T.map rowD)).length = T.length := by rw [numbered_length]; simp
    rw [hl2] at hst
    simp
    exact ⟨small24 (by omega), hpre, R, hst⟩
end DL
end
/-! ### P19 -/
section
set_option linter.all false
set_option maxRecDepth 100000
/-! P19: rows made unit rows, column by column; no program. -/
namespace DL
open PySem PySem.Spec L2
open PyProof.Rows hiding St
open LA
/-- a row, where it stands -/
structure Gr where
  l : Nat
  row : List Int
def Ker (p : Int) (M : Nat) (G : List Gr) (x : Nat → Int) : Prop := ∀ (r : Nat) (e : Gr), G[r]? = some e → p ∣ sm M fun i => x i * e.row.getD i 0
section
variable {p : Int} {M : Nat} {G : List Gr} {x : Nat → Int}
theorem sm_comb {f f' g : Nat → Int} {u t : Int} (h : ∀ j, j < M → p ∣ f' j - (u * f j + t * g j)) : p ∣ sm M (fun i => x i * f' i) - (u * sm M (fun i => x i * f i) + t * sm M (fun i => x i * g i)) := by
  have h1 := sm_lin u t (fun i => x i * f i) (fun i => x i * g i) M
  rw [← h1]
  have h2 := sm_lin 1 (-1) (fun i => x i * f' i) (fun i => u * (x i * f i) + t * (x i * g i)) M
  have h3 : p ∣ sm M fun i => 1 * (x i * f' i) + -1 * (u * (x i * f i) + t * (x i * g i)) := sm_dvd fun i hi => dvd1 (x i) (h i hi) (by grind)
  rw [h2] at h3
  exact dvd1 1 h3 (by grind)
theorem sm_tail {f : Nat → Int} {k : Nat} : ∀ {n : Nat}, k ≤ n → (∀ i, k ≤ i → i < n → f i = 0) → sm n f = sm k f
  | 0, h, _ => by have : k = 0 := by omega
                  rw [this]
  | n + 1, h, h0 => by
    by_cases e : k = n + 1
    · rw [e]
    · simp only [sm]
      rw [h0 n (by omega) (by omega), sm_tail (n := n) (by omega) fun i h1 h2 => h0 i h1 (by omega)]
      omega
theorem sm_delta {f : Nat → Int} {r : Nat} : ∀ {n : Nat}, sm n (fun i => f i * (if r = i then 1 else 0)) = if r < n then f r else 0
  | 0 => by simp [sm]
  | n + 1 => by
    simp only [sm]
    rw [sm_delta (n := n)]
    by_cases h : r = n
    · subst h; simp
    · by_cases h2 : r < n
      · rw [if_pos h2, if_neg h, if_pos (by omega)]; omega
      · rw [if_neg h2, if_neg h, if_neg (by omega)]; omega
theorem ker_set {r k : Nat} {e e' g : Gr} {u t : Int} (he : G[r]? = some e) (hg : t = 0 ∨ (k ≠ r ∧ G[k]? = some g)) (hu : ∃ u', p ∣ u * u' - 1) (h : ∀ j, j < M → p ∣ e'.row.getD j 0 - (u * e.row.getD j 0 + t * g.row.getD j 0)) : Ker p M (G.set r e') x ↔ Ker p M G x := by
  have hc := sm_comb (x := x) h
  have hr := (List.getElem?_eq_some_iff.mp he).1
  obtain ⟨u', hu⟩ := hu
  constructor
  · intro hk i ei hi
    by_cases hir : i = r
    · subst hir
      rw [he] at hi
      cases hi
      have h1 := hk i e' (by rw [List.getElem?_set_self hr])
      have h2 : p ∣ t * sm M fun i => x i * g.row.getD i 0 := by
        rcases hg with h0 | ⟨h0, h3⟩
        · rw [h0]; exact ⟨0, by grind⟩
        · exact dvd1 t (hk k g (by rw [List.getElem?_set_ne (Ne.symm h0)]; exact h3)) (by grind)
      obtain ⟨a, ha⟩ := hc
      obtain ⟨b, hb⟩ := h1
      obtain ⟨c, hc⟩ := h2
      obtain ⟨d, hd⟩ := hu
      rw [hb, hc] at ha
      generalize sm M (fun i => x i * e.row.getD i 0) = z at *
      exact ⟨u' * (b - a - c) - d * z, by grind⟩
    · exact hk i ei (by rw [List.getElem?_set_ne (Ne.symm hir)]; exact hi)
  · intro hk i ei hi
    by_cases hir : i = r
    · subst hir
      rw [List.getElem?_set_self hr] at hi
      cases hi
      have h1 := hk i e he
      have h2 : p ∣ t * sm M fun i => x i * g.row.getD i 0 := by
        rcases hg with h0 | ⟨h0, h3⟩
        · rw [h0]; exact ⟨0, by grind⟩
        · exact dvd1 t (hk k g h3) (by grind)
      exact dvd3 1 u 1 hc h1 h2 (by grind)
    · exact hk i ei (by rw [List.getElem?_set_ne (Ne.symm hir)] at hi; exact hi)
theorem swap_at {a b : Gr} {k q : Nat} (ha : G[k]? = some a) (hb : G[q]? = some b) (i : Nat) : ((G.set k b).set q a)[i]? = if i = q then some a else if i = k then some b else G[i]? := by
  have h1 := (List.getElem?_eq_some_iff.mp ha).1
  have h2 := (List.getElem?_eq_some_iff.mp hb).1
  by_cases hq : i = q
  · subst hq
    rw [if_pos rfl, List.getElem?_set_self (by simpa using h2)]
  · rw [if_neg hq, List.getElem?_set_ne (Ne.symm hq)]
    by_cases hk : i = k
    · subst hk
      rw [if_pos rfl, List.getElem?_set_self h1]
    · rw [if_neg hk, List.getElem?_set_ne (Ne.symm hk)]
theorem ker_swap {a b : Gr} {k q : Nat} (ha : G[k]? = some a) (hb : G[q]? = some b) : Ker p M ((G.set k b).set q a) x ↔ Ker p M G x := by
  constructor
  · intro h i e hi
    by_cases hk : i = k
    · subst hk
      rw [ha] at hi
      cases hi
      exact h q a (by rw [swap_at ha hb, if_pos rfl])
    · by_cases hq : i = q
      · subst hq
        rw [hb] at hi
        cases hi
        exact h k b (by rw [swap_at ha hb, if_neg (Ne.symm hk), if_pos rfl])
      · exact h i e (by rw [swap_at ha hb, if_neg hq, if_neg hk]; exact hi)
  · intro h i e hi
    rw [swap_at ha hb] at hi
    by_cases hq : i = q
    · rw [if_pos hq] at hi; cases hi; exact h k a ha
    · rw [if_neg hq] at hi
      by_cases hk : i = k
      · rw [if_pos hk] at hi; cases hi; exact h q b hb
      · rw [if_neg hk] at hi; exact h i e hi
end
/-- k columns are unit columns; the same values solve the rows -/
structure GI (p : Int) (w m k : Nat) (G0 G : List Gr) : Prop where
  len : G.length = w
  row : ∀ e ∈ G, IsRow p (m + 1) e.row
  unit : ∀ (r : Nat) (e : Gr), G[r]? = some e → ∀ c, c < k → p ∣ e.row.getD c 0 - (if r = c then 1 else 0)
  ker : ∀ x, Ker p (m + 1) G x ↔ Ker p (m + 1) G0 x
section
variable {p : Int} {w m k : Nat} {G0 G : List Gr}
theorem GI.lt (h : GI p w m k G0 G) {r : Nat} (hr : r < w) : ∃ e, G[r]? = some e ∧ IsRow p (m + 1) e.row := by
  have hl := h.len
  exact ⟨G[r]'(by omega), List.getElem?_eq_getElem (by omega), h.row _ (List.getElem_mem _)⟩
/-- what column c says of row r, where the first k columns are unit columns -/
theorem GI.comb (h : GI p w m k G0 G) {r : Nat} {e : Gr} (he : G[r]? = some e) (f : Nat → Int) : p ∣ (sm k fun i => f i * e.row.getD i 0) - if r < k then f r else 0 := by
  have h1 : p ∣ sm k (fun i => e.row.getD i 0 * f i) - sm k fun i => (if r = i then 1 else 0) * f i := sm_cong fun i hi => h.unit r e he i hi
  have e1 : sm k (fun i => (if r = i then 1 else 0) * f i) = sm k (fun i => f i * (if r = i then 1 else 0)) := sm_congr fun i _ => by grind
  have e2 : sm k (fun i => e.row.getD i 0 * f i) = sm k fun i => f i * e.row.getD i 0 := sm_congr fun i _ => by grind
  rw [e1, e2, sm_delta] at h1
  exact h1
def colG (G : List Gr) (c r : Nat) : Int := match G[r]? with
  | some e => e.row.getD c 0
  | none => 0
/-- a row behind k that is not 0 at k -/
theorem GI.pivot (hp : Pr p) (h : GI p w m k G0 G) (hkm : k < m) (H0 : ∀ x, Ker p (m + 1) G0 x → x m = 0 → ∀ i, i < m → p ∣ x i) : ∃ r e, k ≤ r ∧ r < w ∧ G[r]? = some e ∧ e.row.getD k 0 ≠ 0 := by
  have hp2 := hp.two
  refine Classical.byContradiction fun hno => ?_
  have hz : ∀ r e, k ≤ r → G[r]? = some e → e.row.getD k 0 = 0 := fun r e hr he => by
    refine Decidable.byContradiction fun h0 => hno ⟨r, e, hr, ?_, he, h0⟩
    rw [← h.len]
    exact (List.getElem?_eq_some_iff.mp he).1
  have hker : Ker p (m + 1) G (fun i => if i < k then colG G k i else if i = k then -1 else 0) := fun r e he => by
    rw [sm_tail (k := k + 1) (by omega) fun i h1 h2 => by dsimp only; rw [if_neg (by omega), if_neg (by omega)]; omega]
    simp only [sm]
    rw [if_neg (by omega), if_pos trivial, sm_congr (g := fun i => colG G k i * e.row.getD i 0) fun i hi => by rw [if_pos hi]]
    have hc := h.comb he (colG G k)
    by_cases hr : r < k
    · rw [if_pos hr] at hc
      have e1 : colG G k r = e.row.getD k 0 := by simp only [colG, he]
      rw [e1] at hc
      exact dvd1 1 hc (by grind)
    · rw [if_neg hr] at hc
      rw [hz r e (by omega) he]
      exact dvd1 1 hc (by grind)
  have h1 := H0 _ ((h.ker _).mp hker) (by rw [if_neg (by omega), if_neg (by omega)]) k hkm
  rw [if_neg (by omega), if_pos rfl] at h1
  obtain ⟨a, ha⟩ := h1
  have h2 := dvd_small (p := p) (x := 1) ⟨-a, by grind⟩ (by omega) (by omega)
  omega
/-- none of the last column is left over: the last column solves the rows -/
theorem GI.sol (h : GI p w m m G0 G) (hz : ∀ r e, m ≤ r → G[r]? = some e → e.row.getD m 0 = 0) : Ker p (m + 1) G0 (fun i => if i < m then colG G m i else -1) := by
  refine (h.ker _).mp fun r e he => ?_
  simp only [sm]
  rw [if_neg (by omega), sm_congr (g := fun i => colG G m i * e.row.getD i 0) fun i hi => by rw [if_pos hi]]
  have hc := h.comb he (colG G m)
  by_cases hr : r < m
  · rw [if_pos hr] at hc
    have e1 : colG G m r = e.row.getD m 0 := by simp only [colG, he]
    rw [e1] at hc
    exact dvd1 1 hc (by grind)
  · rw [if_neg hr] at hc
    rw [hz r e (by omega) he]
    exact dvd1 1 hc (by grind)
/-- something is left over: nothing solves them -/
theorem GI.nosol (h : GI p w m m G0 G) {r : Nat} {e : Gr} (hr : m ≤ r) (he : G[r]? = some e) (h0 : e.row.getD m 0 ≠ 0) {x : Nat → Int} (hx : Ker p (m + 1) G0 x) (hm : x m = -1) : False := by
  have h1 := (h.ker x).mpr hx r e he
  simp only [sm] at h1
  have hc := h.comb he x
  rw [if_neg (by omega)] at hc
  have h2 : p ∣ e.row.getD m 0 := dvd2 1 (-1) hc h1 (by rw [hm]; grind)
  have hb := (h.row e (List.mem_of_getElem? he)).at (show m < m + 1 by omega)
  exact h0 (dvd_small h2 hb.1 hb.2)
theorem GI.swap (h : GI p w m k G0 G) {a b : Gr} {q : Nat} (ha : G[k]? = some a) (hb : G[q]? = some b) (hq : k ≤ q) : GI p w m k G0 ((G.set k b).set q a) := by
  refine ⟨by simp [h.len], fun e he => ?_, fun r e he c hc => ?_, fun x => (ker_swap ha hb).trans (h.ker x)⟩
  · rcases List.mem_or_eq_of_mem_set he with h1 | h1
    · rcases List.mem_or_eq_of_mem_set h1 with h2 | h2
      · exact h.row e h2
      · rw [h2]; exact h.row b (List.mem_of_getElem? hb)
    · rw [h1]; exact h.row a (List.mem_of_getElem? ha)
  · rw [swap_at ha hb] at he
    by_cases h1 : r = q
    · rw [if_pos h1] at he
      cases he
      have := h.unit k a ha c hc
      rw [if_neg (by omega)] at this ⊢
      exact this
    · rw [if_neg h1] at he
      by_cases h2 : r = k
      · rw [if_pos h2] at he
        cases he
        have := h.unit q b hb c hc
        rw [if_neg (by omega)] at this ⊢
        exact this
      · rw [if_neg h2] at he
        exact h.unit r e he c hc
theorem GI.scale (h : GI p w m k G0 G) {a a' : Gr} {b : Int} (ha : G[k]? = some a) (hb : ∃ u, p ∣ b * u - 1) (hrow : IsRow p (m + 1) a'.row) (hL : ∀ j, j < m + 1 → p ∣ a'.row.getD j 0 - b * a.row.getD j 0) (hkm : k < m) : GI p w m k G0 (G.set k a') := by
  have hk := (List.getElem?_eq_some_iff.mp ha).1
  refine ⟨by simp [h.len], fun e he => ?_, fun r e he c hc => ?_, fun x => (ker_set (t := 0) (g := a) (k := k) ha (.inl rfl) hb fun j hj => ?_).trans (h.ker x)⟩
  · rcases List.mem_or_eq_of_mem_set he with h1 | h1
    · exact h.row e h1
    · rw [h1]; exact hrow
  · by_cases h1 : r = k
    · subst h1
      rw [List.getElem?_set_self hk] at he
      cases he
      have h2 := h.unit r a ha c hc
      rw [if_neg (by omega)] at h2 ⊢
      exact dvd2 1 b (hL c (by omega)) h2 (by grind)
    · rw [List.getElem?_set_ne (Ne.symm h1)] at he
      exact h.unit r e he c hc
  · exact dvd1 1 (hL j hj) (by grind)
/-- in the midst of clearing column k: the rows ahead of i are 0 there -/
structure GC (p : Int) (w m k : Nat) (G0 G : List Gr) (g : Gr) (i : Nat) : Prop where
  gi : GI p w m k G0 G
  at_ : G[k]? = some g
  one : p ∣ g.row.getD k 0 - 1
  zero : ∀ (r : Nat) (e : Gr), r < i → r ≠ k → G[r]? = some e → e.row.getD k 0 = 0
theorem GC.done {g : Gr} (h : GC p w m k G0 G g w) : GI p w m (k + 1) G0 G := by
  refine ⟨h.gi.len, h.gi.row, fun r e he c hc => ?_, h.gi.ker⟩
  by_cases h1 : c < k
  · exact h.gi.unit r e he c h1
  · have : c = k := by omega
    subst this
    by_cases h2 : r = c
    · subst h2
      rw [h.at_] at he
      cases he
      rw [if_pos rfl]
      exact h.one
    · rw [if_neg h2, h.zero r e (by rw [← h.gi.len]; exact (List.getElem?_eq_some_iff.mp he).1) h2 he]
      exact ⟨0, by omega⟩
theorem GC.skip {g : Gr} {i : Nat} (h : GC p w m k G0 G g i) (hz : i = k ∨ ∀ e, G[i]? = some e → e.row.getD k 0 = 0) : GC p w m k G0 G g (i + 1) := by
  refine ⟨h.gi, h.at_, h.one, fun r e hr hne he => ?_⟩
  by_cases h1 : r < i
  · exact h.zero r e h1 hne he
  · have : r = i := by omega
    subst this
    exact hz.resolve_left hne e he
theorem GC.step {g a a' : Gr} {i : Nat} {t : Int} (h : GC p w m k G0 G g i) (ha : G[i]? = some a) (hik : i ≠ k) (hrow : IsRow p (m + 1) a'.row) (hL : ∀ j, j < m + 1 → p ∣ a'.row.getD j 0 - (a.row.getD j 0 + t * g.row.getD j 0)) (ht : p ∣ t + a.row.getD k 0) (hkm : k < m) : GC p w m k G0 (G.set i a') g (i + 1) := by
  have hi := (List.getElem?_eq_some_iff.mp ha).1
  refine ⟨⟨by simp [h.gi.len], fun e he => ?_, fun r e he c hc => ?_, fun x => (ker_set (t := t) (g := g) (k := k) (u := 1) ha (.inr ⟨Ne.symm hik, h.at_⟩) ⟨1, 0, by omega⟩ fun j hj => ?_).trans (h.gi.ker x)⟩, ?_, h.one, fun r e hr hne he => ?_⟩
  · rcases List.mem_or_eq_of_mem_set he with h1 | h1
    · exact h.gi.row e h1
    · rw [h1]; exact hrow
  · by_cases h1 : r = i
    · subst h1
      rw [List.getElem?_set_self hi] at he
      cases he
      have h2 := h.gi.unit r a ha c hc
      have h3 := h.gi.unit k g h.at_ c hc
      rw [if_neg (by omega)] at h3
      exact dvd3 1 1 t (hL c (by omega)) h2 h3 (by grind)
    · rw [List.getElem?_set_ne (Ne.symm h1)] at he
      exact h.gi.unit r e he c hc
  · exact dvd1 1 (hL j hj) (by grind)
  · rw [List.getElem?_set_ne hik]; exact h.at_
  · by_cases h1 : r = i
    · subst h1
      rw [List.getElem?_set_self hi] at he
      cases he
      have h2 := hL k (by omega)
      have hb := hrow.at (show k < m + 1 by omega)
      exact dvd_small (dvd3 1 1 t h2 ht h.one (by grind)) hb.1 hb.2
    · rw [List.getElem?_set_ne (Ne.symm h1)] at he
      exact h.zero r e (by omega) hne he
end
end DL
end
/-! ### P20 -/
section
set_option linter.all false
set_option maxRecDepth 100000
/-! P20: rows in the store; swapped things. -/
namespace DL
open PySem PySem.Spec L2
open PyProof.Rows hiding St
open LA
theorem SW_swap {ma : MA} {mo mi mj : ME} {o i j : D} {r : Env} {s : Sto} {Qn Qb Qc : Env → Sto → Prop} {Qr : D → Sto → Prop} (h1 : ∀ s, mo r s = .ok o s) (h2 : ∀ s, mi r s = .ok i s) (h3 : ∀ s, mj r s = .ok j s)
    (h : RW (ma r s) fun ds s1 => ∃ a b s2 s3, ds = [a, b] ∧ gSet o i a s1 = some s2 ∧ gSet o j b s2 = some s3 ∧ Qn r s3) : SW (mSwap ma mo mi mo mj r s) Qn Qr Qb Qc := by
  obtain ⟨ds, s1, e, a, b, s2, s3, rfl, g1, g2, q⟩ := h.get
  simp [mSwap, mPut, e, h1, h2, h3, g1, g2]
  exact q
/-- a list of rows, each in its own place -/
def RowsAt (s : Sto) (n : Nat) (G : List Gr) : Prop := s[n]? = some (.lst (G.map fun e => .loc e.l)) ∧ ∀ e ∈ G, s[e.l]? = some (.lst (e.row.map .int)) ∧ e.l ≠ n
theorem RowsAt.pre {s s1 : Sto} {n : Nat} {G : List Gr} (h : RowsAt s n G) (a : Pre s s1) : RowsAt s1 n G := ⟨a.get h.1, fun e he => ⟨a.get (h.2 e he).1, (h.2 e he).2⟩⟩
theorem RowsAt.set {s : Sto} {n r : Nat} {G : List Gr} {e : Gr} (h : RowsAt s n G) (he : s[e.l]? = some (.lst (e.row.map .int))) (hn : e.l ≠ n) : RowsAt (s.set n (.lst ((G.map fun e => D.loc e.l).set r (.loc e.l)))) n (G.set r e) := by
  refine ⟨?_, fun e' he' => ?_⟩
  · rw [set_same h.1, List.map_set]
  · rcases List.mem_or_eq_of_mem_set he' with h1 | h1
    · rw [set_other (Ne.symm (h.2 e' h1).2)]
      exact h.2 e' h1
    · rw [h1, set_other (Ne.symm hn)]
      exact ⟨he, hn⟩
theorem RowsAt.ix {s : Sto} {n r : Nat} {G : List Gr} {e : Gr} (h : RowsAt s n G) (he : G[r]? = some e) : gIx (.loc n) (.int (r : Int)) s = some (.loc e.l, s) := by
  have hl := (List.getElem?_eq_some_iff.mp he).1
  rw [gIx_lst h.1, atI_in (a := .loc e.l) (by omega)]
  · rfl
  · rw [List.getElem?_map]
    have : (r : Int).toNat = r := by omega
    rw [this, he]
    rfl
theorem RowsAt.put {s : Sto} {n r : Nat} {G : List Gr} {d : D} (h : RowsAt s n G) (hl : r < G.length) : gSet (.loc n) (.int (r : Int)) d s = some (s.set n (.lst ((G.map fun e => D.loc e.l).set r d))) := by
  have := gSet_lst (v := d) h.1 (ixN_nn (i := (r : Int)) (by omega) (by simp; omega))
  have e : (r : Int).toNat = r := by omega
  rw [e] at this
  exact this
theorem row_ix {s : Sto} {l c w : Nat} {ys : List Int} (h : s[l]? = some (.lst (ys.map .int))) (hl : ys.length = w) (hc : c < w) : gIx (.loc l) (.int (c : Int)) s = some (.int (ys.getD c 0), s) := by
  rw [gIx_lst h, at_row hl hc]
  rfl
theorem row_last {s : Sto} {l m : Nat} {ys : List Int} (h : s[l]? = some (.lst (ys.map .int))) (hl : ys.length = m + 1) : gIx (.loc l) (.int (-1)) s = some (.int (ys.getD m 0), s) := by
  rw [gIx_lst h]
  have e1 : ixN (ys.map D.int).length (-1) = some m := by
    unfold ixN
    simp [hl]
    omega
  have e2 : atI (ys.map D.int) (-1) = some (.int (ys.getD m 0)) := by
    unfold atI
    rw [e1]
    simp [List.getD_eq_getElem?_getD, List.getElem?_eq_getElem (show m < ys.length by omega)]
  rw [e2]
  rfl
theorem gAdd_rows {s : Sto} {a b : Nat} {xs ys : List D} (h1 : s[a]? = some (.lst xs)) (h2 : s[b]? = some (.lst ys)) (hl : xs.length + ys.length ≤ sizeLine) : gAdd (.loc a) (.loc b) s = some (.loc s.length, s ++ [.lst (xs ++ ys)]) := by
  simp [gAdd, h1, h2, hl]
/-- the sums that are alone, in their order -/
noncomputable abbrev S' (p : Int) (w : Nat) (T : List (List Int)) : Nat → Vec := fun c => famL T ((alL p w (famL T) T.length).getD c 0)
/-- row j of what is to be solved -/
def eqRow (F : List Nat) (T : List (List Int)) (xs : List Int) (j : Nat) : List Int := (F.map fun i => (T.getD i []).getD j 0) ++ [xs.getD j 0]
theorem eqRow_len {F : List Nat} {T : List (List Int)} {xs : List Int} {j : Nat} : (eqRow F T xs j).length = F.length + 1 := by simp [eqRow]
theorem eqRow_at {F : List Nat} {T : List (List Int)} {xs : List Int} {j c : Nat} (h : c < F.length) : (eqRow F T xs j).getD c 0 = famL T (F.getD c 0) j := by
  unfold eqRow
  rw [List.getD_eq_getElem?_getD, List.getElem?_append_left (by simpa using h), List.getElem?_map, List.getElem?_eq_getElem h]
  simp [famL, vecL, List.getD_eq_getElem?_getD, List.getElem?_eq_getElem h]
theorem eqRow_last {F : List Nat} {T : List (List Int)} {xs : List Int} {j : Nat} : (eqRow F T xs j).getD F.length 0 = vecL xs j := by
  unfold eqRow
  rw [List.getD_eq_getElem?_getD, List.getElem?_append_right (by simp)]
  simp [vecL, List.getD_eq_getElem?_getD]
theorem eqRow_row {p : Int} {w : Nat} {F : List Nat} {T : List (List Int)} {xs : List Int} {j : Nat} (hT : ∀ r ∈ T, IsRow p w r) (hx : IsRow p w xs) (hF : ∀ i ∈ F, i < T.length) (hj : j < w) : IsRow p (F.length + 1) (eqRow F T xs j) := by
  refine ⟨eqRow_len, fun x hm => ?_⟩
  unfold eqRow at hm
  rcases List.mem_append.mp hm with h1 | h1
  · obtain ⟨i, hi, rfl⟩ := List.mem_map.mp h1
    have hil := hF i hi
    have : T.getD i [] ∈ T := by simp [List.getD_eq_getElem?_getD, List.getElem?_eq_getElem hil]
    exact (hT _ this).at hj
  · rw [List.mem_singleton.mp h1]
    exact hx.at hj
/-- what solves the rows -/
theorem eqs_ker {p : Int} {w : Nat} {F : List Nat} {T : List (List Int)} {xs : List Int} {G : List Gr} (hG : ∀ r, r < w → ∃ e, G[r]? = some e ∧ e.row = eqRow F T xs r) (hl : G.length = w) {x : Nat → Int} :
    Ker p (F.length + 1) G x ↔ ∀ j, j < w → p ∣ (sm F.length fun c => x c * famL T (F.getD c 0) j) + x F.length * vecL xs j := by
  have key : ∀ r e, G[r]? = some e → r < w → (sm (F.length + 1) fun i => x i * e.row.getD i 0) = (sm F.length fun c => x c * famL T (F.getD c 0) r) + x F.length * vecL xs r := fun r e he hr => by
    obtain ⟨e', h1, h2⟩ := hG r hr
    rw [he] at h1
    cases h1
    simp only [sm]
    rw [h2, eqRow_last, sm_congr fun i hi => by rw [eqRow_at hi]]
  constructor
  · intro h j hj
    obtain ⟨e, he, _⟩ := hG j hj
    have := h j e he
    rw [key j e he hj] at this
    exact this
  · intro h r e he
    have hr : r < w := by rw [← hl]; exact (List.getElem?_eq_some_iff.mp he).1
    rw [key r e he hr]
    exact h r hr
end DL
end
/-! ### P21 -/
section
set_option linter.all false
set_option maxRecDepth 100000
/-! P21: the sums that are alone make all; in one way. -/
namespace DL
open PySem PySem.Spec L2
open PyProof.Rows hiding St
open LA
section
variable {p : Int} {w : Nat} {S : Nat → Vec}
theorem alL_sp : ∀ {n : Nat} {v : Vec}, Sp p w (upto S n) v ↔ Sp p w ((alL p w S n).map S) v
  | 0, v => by simp [alL, upto]
  | n + 1, v => by
    constructor
    · intro h
      refine Sp.trans (fun L hL => ?_) h
      obtain ⟨i, hi, rfl⟩ := List.mem_map.mp hL
      have hi := List.mem_range.mp hi
      by_cases ha : Al p w S i
      · exact Sp.mem (List.mem_map.mpr ⟨i, alL_mem.mpr ⟨hi, ha⟩, rfl⟩)
      · have h1 : Sp p w (upto S i) (S i) := Classical.byContradiction ha
        have h2 : Sp p w (upto S n) (S i) := h1.mono fun L hL => by
          obtain ⟨j, hj, rfl⟩ := List.mem_map.mp hL
          exact List.mem_map.mpr ⟨j, List.mem_range.mpr (by have := List.mem_range.mp hj; omega), rfl⟩
        exact (alL_sp (n := n).mp h2).mono fun L hL => by
          obtain ⟨j, hj, rfl⟩ := List.mem_map.mp hL
          have := alL_mem.mp hj
          exact List.mem_map.mpr ⟨j, alL_mem.mpr ⟨by omega, this.2⟩, rfl⟩
    · exact fun h => h.mono fun L hL => by
        obtain ⟨j, hj, rfl⟩ := List.mem_map.mp hL
        exact List.mem_map.mpr ⟨j, List.mem_range.mpr (alL_mem.mp hj).1, rfl⟩
theorem map_upto {F : List Nat} {S : Nat → Vec} : F.map S = upto (fun c => S (F.getD c 0)) F.length := by
  apply List.ext_getElem
  · simp [upto]
  · intro i h1 h2
    have hi : i < F.length := by simpa using h1
    simp [upto, List.getD_eq_getElem?_getD, List.getElem?_eq_getElem hi]
theorem alL_sorted (n : Nat) : (alL p w S n).Pairwise (· < ·) := by
  unfold alL
  exact (List.pairwise_lt_range).filter _
theorem alL_lt {n a b : Nat} (hb : b < (alL p w S n).length) (h : a < b) : (alL p w S n).getD a 0 < (alL p w S n).getD b 0 := by
  have := List.pairwise_iff_getElem.mp (alL_sorted (p := p) (w := w) (S := S) n) a b (by omega) hb h
  simpa [List.getD_eq_getElem?_getD, List.getElem?_eq_getElem hb, List.getElem?_eq_getElem (show a < (alL p w S n).length by omega)] using this
theorem alL_getD {n c : Nat} (hc : c < (alL p w S n).length) : (alL p w S n).getD c 0 < n ∧ Al p w S ((alL p w S n).getD c 0) := by
  have : (alL p w S n).getD c 0 ∈ alL p w S n := by
    rw [List.getD_eq_getElem?_getD, List.getElem?_eq_getElem hc]
    exact List.getElem_mem hc
  exact alL_mem.mp this
/-- in one way only -/
theorem alL_uniq (hp : Pr p) {n : Nat} {x : Nat → Int} (h : ∀ j, j < w → p ∣ sm (alL p w S n).length fun c => x c * S ((alL p w S n).getD c 0) j) : ∀ i, i < (alL p w S n).length → p ∣ x i := by
  refine LA.uniq (w := w) hp (S := fun c => S ((alL p w S n).getD c 0)) (fun i hi => .inl fun hs => (alL_getD hi).2 (hs.mono fun L hL => ?_)) h
  obtain ⟨c, hc, rfl⟩ := List.mem_map.mp hL
  exact List.mem_map.mpr ⟨_, List.mem_range.mpr (alL_lt hi (List.mem_range.mp hc)), rfl⟩
/-- what is made is made of the sums that are alone -/
theorem alL_made {n : Nat} {v : Vec} : Sp p w (upto S n) v ↔ ∃ x : Nat → Int, ∀ j, j < w → p ∣ v j - sm (alL p w S n).length fun c => x c * S ((alL p w S n).getD c 0) j := by
  rw [alL_sp, map_upto]
  exact sp_iff
end
theorem sm_put {g : Nat → Int} {f : Nat → Int} {a : Nat} {y : Int} (h0 : f a = 0) : ∀ {n : Nat}, a < n → sm n (fun i => (if i = a then y else f i) * g i) = sm n (fun i => f i * g i) + y * g a
  | 0, h => by omega
  | n + 1, h => by
    simp only [sm]
    by_cases e : a = n
    · subst e
      rw [if_pos rfl, sm_congr (g := fun i => f i * g i) fun i hi => by rw [if_neg (by omega)], h0]
      omega
    · rw [sm_put h0 (n := n) (by omega), if_neg (by omega)]
      omega
/-- the values, put in their places -/
structure By (p : Int) (w n : Nat) (S : Nat → Vec) (F : List Nat) (x : Nat → Int) (c : Nat) (ys : List Int) : Prop where
  len : ys.length = n
  bd : ∀ y ∈ ys, 0 ≤ y ∧ y < p
  al : ∀ i, ys.getD i 0 = 0 ∨ ∃ c', c' < c ∧ F.getD c' 0 = i
  eq : ∀ j, (sm n fun i => ys.getD i 0 * S i j) = sm c fun c' => x c' * S (F.getD c' 0) j
theorem By.start {p : Int} {w n : Nat} {S : Nat → Vec} {F : List Nat} {x : Nat → Int} (hp : 0 < p) : By p w n S F x 0 (List.replicate n 0) := by
  have h0 : ∀ i, (List.replicate n (0 : Int)).getD i 0 = 0 := fun i => by
    rw [List.getD_eq_getElem?_getD, List.getElem?_replicate]
    split <;> rfl
  refine ⟨by simp, fun y hy => by rw [List.eq_of_mem_replicate hy]; omega, fun i => .inl (h0 i), fun j => ?_⟩
  simp only [sm]
  exact sm_zero fun i hi => by rw [h0]; omega
theorem getD_set {ys : List Int} {a i : Nat} {y : Int} (h : a < ys.length) : (ys.set a y).getD i 0 = if i = a then y else ys.getD i 0 := by
  rw [List.getD_eq_getElem?_getD, List.getElem?_set]
  by_cases e : a = i
  · subst e
    simp [h]
  · rw [if_neg e, if_neg (Ne.symm e), List.getD_eq_getElem?_getD]
theorem By.step {p : Int} {w n : Nat} {S : Nat → Vec} {x : Nat → Int} {c : Nat} {ys : List Int} (h : By p w n S (alL p w S n) x c ys) (hc : c < (alL p w S n).length) (hb : 0 ≤ x c ∧ x c < p) : By p w n S (alL p w S n) x (c + 1) (ys.set ((alL p w S n).getD c 0) (x c)) := by
  have hl := (alL_getD hc).1
  have hl2 : (alL p w S n).getD c 0 < ys.length := by rw [h.len]; exact hl
  refine ⟨by simp [h.len], fun y hy => ?_, fun i => ?_, fun j => ?_⟩
  · rcases List.mem_or_eq_of_mem_set hy with h1 | h1
    · exact h.bd y h1
    · rw [h1]; exact hb
  · rw [getD_set hl2]
    by_cases e : i = (alL p w S n).getD c 0
    · exact .inr ⟨c, by omega, e.symm⟩
    · rw [if_neg e]
      rcases h.al i with h1 | ⟨c', h1, h2⟩
      · exact .inl h1
      · exact .inr ⟨c', by omega, h2⟩
  · have h0 : ys.getD ((alL p w S n).getD c 0) 0 = 0 := by
      rcases h.al ((alL p w S n).getD c 0) with h1 | ⟨c', h1, h2⟩
      · exact h1
      · have := alL_lt hc h1
        omega
    simp only [sm]
    rw [sm_congr (g := fun i => (if i = (alL p w S n).getD c 0 then x c else ys.getD i 0) * S i j) fun i hi => by rw [getD_set hl2], sm_put h0 hl, h.eq j]
theorem By.sol {p : Int} {w n : Nat} {S : Nat → Vec} {v : Vec} {x : Nat → Int} {ys : List Int} (h : By p w n S (alL p w S n) x (alL p w S n).length ys) (hs : ∀ j, j < w → p ∣ v j - sm (alL p w S n).length fun c => x c * S ((alL p w S n).getD c 0) j) : Sol p w n S v ys := by
  refine ⟨h.len, h.bd, fun i hi => ?_, fun j hj => by rw [h.eq j]; exact hs j hj⟩
  rcases h.al i with h1 | ⟨c', h1, h2⟩
  · exact .inr h1
  · left
    rw [← h2]
    exact (alL_getD h1).2
end DL
end
/-! ### P22 -/
section
set_option linter.all false
set_option maxRecDepth 100000
/-! P22: the law's made. -/
namespace DL
open PySem PySem.Spec L2
open PyProof.Rows hiding St
open LA
theorem itL_seq {s : Sto} {n : Nat} {ds : List D} (h : s[n]? = some (.lst ds)) : itL s (.loc n) = some ds := by simp [itL, h]
theorem range_get {n i : Nat} {dd : D} (h : ((List.range n).map fun (i : Nat) => D.int (i : Int))[i]? = some dd) : i < n ∧ dd = .int (i : Int) := by
  rw [List.getElem?_map, Option.map_eq_some_iff] at h
  obtain ⟨j, h1, h2⟩ := h
  obtain ⟨h3, h4⟩ := List.getElem?_eq_some_iff.mp h1
  simp at h3 h4
  exact ⟨h3, by rw [← h2, ← h4]⟩
theorem slice_drop {s : Sto} {n m : Nat} {ds : List D} (h : s[n]? = some (.lst ds)) : gSl s (.loc n) (some (m : Int)) none = some (.loc s.length, s ++ [.lst (ds.drop m)]) := by
  simp only [gSl, h, HT.sIx_nat, HT.sIx_none]
  rw [List.take_of_length_le (by simp)]
  by_cases e : m ≤ ds.length
  · rw [Nat.min_eq_left e]
  · rw [Nat.min_eq_right (by omega), List.drop_eq_nil_of_le (show ds.length ≤ m by omega), List.drop_eq_nil_of_le (Nat.le_refl _)]
def lastI (ds : List D) : Int := match ds.getLast? with
  | some (.int x) => x
  | _ => 0
theorem lastI_row {ys : List Int} {m : Nat} (h : ys.length = m + 1) : lastI (ys.map .int) = ys.getD m 0 := by
  unfold lastI
  rw [List.getLast?_eq_getElem?, List.length_map, h, List.getElem?_map]
  have : m + 1 - 1 = m := by omega
  rw [this, List.getElem?_eq_getElem (show m < ys.length by omega), List.getD_eq_getElem?_getD, List.getElem?_eq_getElem (show m < ys.length by omega)]
  rfl
/-- values put in their places -/
def M4In (s : Sto) (p : Int) (w : Nat) (T : List (List Int)) (xs : List Int) (F : List Nat) (f n b : Nat) (G : List Gr) (c : Nat) (r : Env) (s1 : Sto) : Prop :=
  ∃ (v5 v6 v7 v8 v9 v10 v12 v13 : Option D) (ys : List Int), r = [some (.int p), some (sumsD T), some (rowD xs), some (.loc f), some (.loc n), v5, v6, v7, v8, v9, v10, some (.loc b), v12, v13] ∧ Pre s s1 ∧ s1[f]? = some (.lst (natsD F)) ∧ RowsAt s1 n G ∧ s1[b]? = some (.lst (ys.map .int)) ∧ By p w T.length (famL T) F (colG G F.length) c ys
/-- the rows of the first j places -/
def M1In (s : Sto) (p : Int) (w : Nat) (T : List (List Int)) (xs : List Int) (F : List Nat) (f n : Nat) (i : Nat) (r : Env) (s1 : Sto) : Prop :=
  ∃ (v5 v10 : Option D) (G : List Gr), r = [some (.int p), some (sumsD T), some (rowD xs), some (.loc f), some (.loc n), v5, none, none, none, none, v10, none, none, none] ∧ Pre s s1 ∧ s1[f]? = some (.lst (natsD F)) ∧ RowsAt s1 n G ∧ G.length = i ∧ ∀ j, j < i → ∃ e, G[j]? = some e ∧ e.row = eqRow F T xs j
/-- in the midst of the columns -/
def M2In (s : Sto) (p : Int) (w : Nat) (T : List (List Int)) (xs : List Int) (F : List Nat) (f n : Nat) (G0 : List Gr) (k : Nat) (r : Env) (s1 : Sto) : Prop :=
  ∃ (v5 v7 v8 v9 v10 v12 v13 : Option D) (G : List Gr), r = [some (.int p), some (sumsD T), some (rowD xs), some (.loc f), some (.loc n), v5, some (.int (k : Int)), v7, v8, v9, v10, none, v12, v13] ∧ Pre s s1 ∧ s1[f]? = some (.lst (natsD F)) ∧ RowsAt s1 n G ∧ GI p w F.length k G0 G ∧ k ≤ w
/-- in the midst of clearing a column -/
def M3In (s : Sto) (p : Int) (w : Nat) (T : List (List Int)) (xs : List Int) (F : List Nat) (f n : Nat) (G0 : List Gr) (k l : Nat) (L : List Int) (i : Nat) (r : Env) (s1 : Sto) : Prop :=
  ∃ (v5 v8 v9 v10 v12 v13 : Option D) (G : List Gr), r = [some (.int p), some (sumsD T), some (rowD xs), some (.loc f), some (.loc n), v5, some (.int (k : Int)), some (.int (k : Int)), v8, v9, v10, none, v12, v13] ∧ Pre s s1 ∧ s1[f]? = some (.lst (natsD F)) ∧ RowsAt s1 n G ∧ GC p w F.length k G0 G ⟨l, L⟩ i
theorem lmade_spec (A : Str → Addr) {s : Sto} {p : Int} {w : Nat} {T : List (List Int)} {xs : List Int} (hp : Pr p) (hp2 : p ≤ 1000) (hw : w ≤ 50) (hl : T.length < 90) (hT : ∀ r ∈ T, IsRow p w r) (hx : IsRow p w xs) :
    RW (l_law_made A [.int p, sumsD T, rowD xs] s) fun v s' => Pre s s' ∧ ((v = .non ∧ ¬ Sp p w (upto (famL T) T.length) (vecL xs)) ∨ ∃ c, v = .tup (c.map .int) ∧ Sol p w T.length (famL T) (vecL xs) c) := by
  have hpos : 0 < p := by have := hp.two; omega
  unfold l_law_made
  rw [RW_def]
  refine ⟨rfl, ?_⟩
  simp
  refine (ltaken_spec A hp hp2 hw hl hT).imp fun v s1 ⟨q1, R, e, ht⟩ => ?_
  subst e
  simp
  have hf1 := ht.hf
  have hFl : (alL p w (famL T) T.length).length ≤ T.length := alL_len
  have hFm : ∀ i ∈ alL p w (famL T) T.length, i < T.length := fun i hi => (alL_mem.mp hi).1
  have hmade := fun v => alL_made (p := p) (w := w) (S := famL T) (n := T.length) (v := v)
  have hun := fun x => alL_uniq (w := w) hp (S := famL T) (n := T.length) (x := x)
  have hstep := @By.step p w T.length (famL T)
  have hsol := @By.sol p w T.length (famL T) (vecL xs)
  have hgetD := @alL_getD p w (famL T) T.length
  generalize alL p w (famL T) T.length = F at *
  have q2 : Pre s (s1 ++ [Ob.lst []]) := q1.push
  have hxl := hx.len
  refine ⟨by omega, ?_⟩
  refine SW_forGo (M1In s p w T xs F s.length s1.length) ?_ ?_ ?_ ?_
  · refine ⟨_, _, [], rfl, q2, ?_, ⟨last_of, by simp⟩, rfl, fun j hj => by omega⟩
    rw [List.getElem?_append_left (len_of hf1)]; exact hf1
  · intros; simp
  · rintro i dd r1 s2 hdd ⟨v5, v10, G, rfl, hpre, hf, hG, hGl, hGr⟩
    obtain ⟨hi, rfl⟩ := range_get hdd
    have hiw : i < w := by rw [← hx.len]; exact hi
    simp
    obtain ⟨g1, e1, k1⟩ := (SeqAt.loc hf).src
    simp [e1, itL_seq hG.1]
    refine lc_rw (f := fun d => match d with | .int x => .int ((T.getD x.toNat []).getD i 0) | d => d) (b := fun _ => true) ?_ ?_ ?_ ?_
    · exact k1
    · exact small24 (by simp; omega)
    · intro d hd
      obtain ⟨j, hj, rfl⟩ := List.mem_map.mp hd
      have hjl := hFm j hj
      have hrow : T[j]? = some (T.getD j []) := by simp [List.getD_eq_getElem?_getD, List.getElem?_eq_getElem hjl]
      have hrr := hT _ (List.mem_of_getElem? hrow)
      have hat : atI (T.map rowD) (j : Int) = some (rowD (T.getD j [])) := by
        refine atI_in (by omega) ?_
        have : (j : Int).toNat = j := by omega
        rw [this, List.getElem?_map, hrow]
        rfl
      have hat2 := at_row hrr.len hiw
      have e0 : (j : Int).toNat = j := by omega
      generalize T.getD j [] = row at hrow hat hat2 hrr ⊢
      simp [wipeD, hat, hat2, e0, hrow]
    · have e2 : ((natsD F).filter fun _ => true).map (fun d => match d with | .int x => D.int ((T.getD x.toNat []).getD i 0) | d => d) = (F.map fun j => (T.getD j []).getD i 0).map .int := by
        rw [List.filter_eq_self.mpr fun _ _ => rfl, List.map_map, List.map_map]
        apply List.map_congr_left
        intro j _
        have e0 : (j : Int).toNat = j := by omega
        simp only [Function.comp, e0]
      rw [e2]
      obtain ⟨ds, hds⟩ : ∃ ds, (F.map fun j => (T.getD j []).getD i 0) = ds := ⟨_, rfl⟩
      have hdl : ds.length = F.length := by rw [← hds]; simp
      have her : eqRow F T xs i = ds ++ [xs.getD i 0] := by unfold eqRow; rw [hds]
      have hxi := at_row hxl hiw
      obtain ⟨xi, hxi2⟩ : ∃ xi, xs.getD i 0 = xi := ⟨_, rfl⟩
      rw [hds]
      rw [hxi2] at hxi her
      simp [hxi]
      refine ⟨small24 (by omega), ?_⟩
      rw [gAdd_rows (xs := ds.map .int) (ys := [.int xi]) (by rw [List.getElem?_append_right (by omega)]; simp) (by rw [List.getElem?_append_right (by omega)]; simp) (by simp; exact small24 (by omega))]
      simp
      have hG2 := hG.pre (Pre.refl.push (q := [Ob.lst (List.map D.int ds), Ob.lst [D.int xi], Ob.lst (List.map D.int ds ++ [D.int xi])]))
      have hn2 := len_of hG.1
      have hff := len_of hf1
      rw [append_lst hG2.1 (by rw [List.length_map, hGl]; exact small24' (by omega))]
      simp
      refine ⟨_, _, G ++ [⟨s2.length + 2, eqRow F T xs i⟩], rfl, (hpre.push).set (by omega), ?_, ⟨?_, fun e he => ?_⟩, by simp [hGl], fun j hj => ?_⟩
      · rw [set_other (by omega)]
        exact (Pre.refl.push).get hf
      · rw [set_same hG2.1]
        simp
      · rcases List.mem_append.mp he with h1 | h1
        · rw [set_other (Ne.symm (hG2.2 e h1).2)]
          exact hG2.2 e h1
        · rw [List.mem_singleton.mp h1]
          refine ⟨?_, by show s2.length + 2 ≠ _; omega⟩
          show (List.set _ s1.length _)[s2.length + 2]? = _
          rw [set_other (by omega), List.getElem?_append_right (by omega), her]
          simp
      · by_cases e : j < i
        · obtain ⟨e', h1, h2⟩ := hGr j e
          exact ⟨e', by rw [List.getElem?_append_left (by omega)]; exact h1, h2⟩
        · have : j = i := by omega
          subst this
          exact ⟨_, by rw [List.getElem?_append_right (by omega), hGl]; simp; rfl, rfl⟩
  · rintro r1 s2 ⟨v5, v10, G, rfl, hpre, hf, hG, hGl, hGr⟩
    simp at hGl hGr
    rw [hxl] at hGl hGr
    have eF : gLen [.loc s.length] s2 = some (.int (F.length : Int), s2) := by rw [gLen_lst hf]; simp
    simp [eF]
    refine ⟨by omega, ?_⟩
    have hker := fun x => eqs_ker (p := p) (x := x) hGr hGl
    have gi0 : GI p w F.length 0 G G := ⟨hGl, fun e he => by
      obtain ⟨j, hj⟩ := List.mem_iff_getElem?.mp he
      have hjw : j < w := by rw [← hGl]; exact (List.getElem?_eq_some_iff.mp hj).1
      obtain ⟨e', h1, h2⟩ := hGr j hjw
      rw [hj] at h1
      cases h1
      rw [h2]
      exact eqRow_row hT hx hFm hjw, fun r e he c hc => by omega, fun x => Iff.rfl⟩
    have H0 : ∀ x, Ker p (F.length + 1) G x → x F.length = 0 → ∀ i, i < F.length → p ∣ x i := fun x hk h0 => hun x fun j hj => by
      have := (hker x).mp hk j hj
      rw [h0] at this
      simpa using this
    clear hGr
    refine SW_forGo (M2In s p w T xs F s.length s1.length G) ?_ ?_ ?_ ?_
    · exact ⟨_, _, _, _, _, _, _, G, rfl, hpre, hf, hG, gi0, Nat.zero_le _⟩
    · intros; simp
    · rintro k dd r1 s3 hdd ⟨v5, v7, v8, v9, v10, v12, v13, G1, rfl, hpre, hf, hG, gi, _⟩
      obtain ⟨hkm, rfl⟩ := range_get hdd
      have eG : gLen [.loc s1.length] s3 = some (.int (w : Int), s3) := by rw [gLen_lst hG.1]; simp [gi.len]
      obtain ⟨pr, pe, hpk, hpw, hpe, hpz⟩ := gi.pivot hp hkm H0
      simp [eG]
      refine ⟨by omega, ?_⟩
      have hix : ∀ i, k + i < w → ∃ e, G1[k + i]? = some e ∧ IsRow p (F.length + 1) e.row ∧ gIx (.loc s1.length) (.int ((k : Int) + (i : Int))) s3 = some (.loc e.l, s3) ∧ gIx (.loc e.l) (.int (k : Int)) s3 = some (.int (colG G1 k (k + i)), s3) := fun i hi => by
        obtain ⟨e, h1, h2⟩ := gi.lt hi
        have h3 := hG.ix h1
        rw [Int.natCast_add] at h3
        refine ⟨e, h1, h2, h3, ?_⟩
        rw [row_ix (hG.2 e (List.mem_of_getElem? h1)).1 h2.len (by omega)]
        simp only [colG, h1]
      refine lc_range (f := fun i => .int ((k : Int) + (i : Int))) (b := fun i => !decide (colG G1 k (k + i) = 0)) ?_ ?_ ?_ ?_
      · simp
      · exact small24 (by omega)
      · intro i hi
        obtain ⟨e, _, _, h3, h4⟩ := hix i (by omega)
        simp [wipeD, h3, h4]
        exact Decidable.em _
      · have hmem : ∀ i, i ∈ (List.range (w - k)).filter (fun i => !decide (colG G1 k (k + i) = 0)) ↔ i < w - k ∧ colG G1 k (k + i) ≠ 0 := fun i => by
          rw [List.mem_filter]; simp
        generalize (List.range (w - k)).filter (fun i => !decide (colG G1 k (k + i) = 0)) = ps at hmem
        cases ps with
        | nil =>
          exfalso
          have h1 := (hmem (pr - k)).mpr ⟨by omega, by
            have e1 : k + (pr - k) = pr := by omega
            rw [e1]
            simp only [colG, hpe]
            exact hpz⟩
          cases h1
        | cons i0 ps =>
          obtain ⟨hi0, hz0⟩ := (hmem i0).mp List.mem_cons_self
          clear hmem hpe hpz
          obtain ⟨eb, hb, hbr, hbi, _⟩ := hix i0 (by omega)
          obtain ⟨ea, ha, har⟩ := gi.lt (show k < w by omega)
          have q4 : Pre s3 (s3 ++ [Ob.lst (List.map (fun (i : Nat) => D.int ((k : Int) + (i : Int))) (i0 :: ps))]) := Pre.refl.push
          simp
          simp at q4
          have hG4 := hG.pre q4
          have hf4 := q4.get hf
          have p4 := hpre.trans q4
          generalize (s3 ++ [Ob.lst (D.int ((k : Int) + (i0 : Int)) :: List.map (fun (i : Nat) => D.int ((k : Int) + (i : Int))) ps)]) = s4 at *
          have hcast : ((k : Int) + (i0 : Int)) = ((k + i0 : Nat) : Int) := by omega
          rw [hcast]
          refine SW_swap (o := .loc s1.length) (i := .int (k : Int)) (j := .int ((k + i0 : Nat) : Int)) (fun _ => rfl) (fun _ => rfl) (fun _ => rfl) ?_
          have b4 := hG4.ix hb
          have a4 := hG4.ix ha
          rw [Int.natCast_add] at b4
          simp [a4, b4]
          have gl := gi.len
          refine ⟨_, hG4.put (by omega), ?_⟩
          have hG5 := hG4.set (r := k) (e := eb) (hG4.2 eb (List.mem_of_getElem? hb)).1 (hG4.2 eb (List.mem_of_getElem? hb)).2
          have q5 : Pre s (s4.set s1.length (.lst ((G1.map fun e => D.loc e.l).set k (.loc eb.l)))) := p4.set q1.1
          have hf5 : (s4.set s1.length (.lst ((G1.map fun e => D.loc e.l).set k (.loc eb.l))))[s.length]? = some (.lst (natsD F)) := by rw [set_other (by have := len_of hf1; omega)]; exact hf4
          have a5 : (s4.set s1.length (.lst ((G1.map fun e => D.loc e.l).set k (.loc eb.l))))[ea.l]? = some (.lst (ea.row.map .int)) := by
            rw [set_other (Ne.symm (hG4.2 ea (List.mem_of_getElem? ha)).2)]
            exact (hG4.2 ea (List.mem_of_getElem? ha)).1
          generalize (s4.set s1.length (.lst ((G1.map fun e => D.loc e.l).set k (.loc eb.l)))) = s5 at *
          have put5 := hG5.put (r := k + i0) (d := .loc ea.l) (by simp; omega)
          rw [Int.natCast_add] at put5
          refine ⟨_, put5, ?_⟩
          have hG6 := hG5.set (r := k + i0) (e := ea) a5 (hG4.2 ea (List.mem_of_getElem? ha)).2
          have q6 : Pre s (s5.set s1.length (.lst (((G1.set k eb).map fun e => D.loc e.l).set (k + i0) (.loc ea.l)))) := q5.set q1.1
          have hf6 : (s5.set s1.length (.lst (((G1.set k eb).map fun e => D.loc e.l).set (k + i0) (.loc ea.l))))[s.length]? = some (.lst (natsD F)) := by rw [set_other (by have := len_of hf1; omega)]; exact hf5
          generalize (s5.set s1.length (.lst (((G1.set k eb).map fun e => D.loc e.l).set (k + i0) (.loc ea.l)))) = s6 at *
          have gi6 := gi.swap ha hb (by omega)
          have hk6 : ((G1.set k eb).set (k + i0) ea)[k]? = some eb := by
            rw [swap_at ha hb]
            by_cases e : k = k + i0
            · rw [if_pos e]
              rw [← e, ha] at hb
              exact hb
            · rw [if_neg e, if_pos rfl]
          have hz6 : eb.row.getD k 0 ≠ 0 := by
            have : colG G1 k (k + i0) = eb.row.getD k 0 := by simp only [colG, hb]
            rwa [this] at hz0
          clear hb ha a4 b4 a5 hG4 hG5 put5 hbi hix
          generalize ((G1.set k eb).set (k + i0) ea) = G6 at *
          have eb6 := (hG6.2 eb (List.mem_of_getElem? hk6))
          have ix6 := hG6.ix hk6
          have tv6 := row_ix eb6.1 hbr.len (show k < F.length + 1 by omega)
          have tb := hbr.at (show k < F.length + 1 by omega)
          obtain ⟨tv, htv⟩ : ∃ tv, eb.row.getD k 0 = tv := ⟨_, rfl⟩
          rw [htv] at tv6 hz6 tb
          simp [ix6, tv6]
          refine (linverse_spec A hp hp2 ⟨by omega, tb.2⟩).imp fun v s7 ⟨q7, iv, e, hb0, hbp, hb1⟩ => ?_
          subst e
          have hG7 := hG6.pre q7
          have hf7 := q7.get hf6
          have p7 := q6.trans q7
          have ix7 := hG7.ix hk6
          obtain ⟨g8, e8, k8⟩ := (SeqAt.loc (hG7.2 eb (List.mem_of_getElem? hk6)).1).src
          simp [ix7, e8]
          refine lc_ints (f := fun x => .int (iv * x % p)) (b := fun _ => true) ?_ ?_ ?_ ?_
          · exact k8
          · exact small24 (by rw [hbr.len]; omega)
          · intro x hx
            simp [wipeD]
            rw [gMul_r (hbr.small' hp2 x hx)]
            simp [hpos]
          · rw [List.filter_eq_self.mpr fun _ _ => rfl]
            have e4 : eb.row.map (fun x => D.int (iv * x % p)) = (eb.row.map fun x => iv * x % p).map .int := by rw [List.map_map]; rfl
            rw [e4]
            have hLat : ∀ j, j < F.length + 1 → (eb.row.map fun x => iv * x % p).getD j 0 = iv * eb.row.getD j 0 % p := fun j hj => getD_mp (by rw [hbr.len]; exact hj)
            have hLr : IsRow p (F.length + 1) (eb.row.map fun x => iv * x % p) := ⟨by simp [hbr.len], fun x hx => by
              obtain ⟨x', _, rfl⟩ := List.mem_map.mp hx
              exact ⟨Int.emod_nonneg _ (by omega), Int.emod_lt_of_pos _ hpos⟩⟩
            obtain ⟨L', hL'⟩ : ∃ L', (eb.row.map fun x => iv * x % p) = L' := ⟨_, rfl⟩
            rw [hL'] at hLat hLr ⊢
            have q8 : Pre s7 (s7 ++ [Ob.lst (L'.map .int)]) := Pre.refl.push
            have hG8 := hG7.pre q8
            have hf8 := q8.get hf7
            have p8 := p7.trans q8
            have hn7 := len_of hG7.1
            refine ⟨_, hG8.put (by rw [gi6.len]; omega), ?_⟩
            have hG9 := hG8.set (r := k) (e := ⟨s7.length, L'⟩) last_of (by show s7.length ≠ _; omega)
            have p9 : Pre s ((s7 ++ [Ob.lst (L'.map .int)]).set s1.length (.lst ((G6.map fun e => D.loc e.l).set k (.loc s7.length)))) := p8.set q1.1
            have hf9 : ((s7 ++ [Ob.lst (L'.map .int)]).set s1.length (.lst ((G6.map fun e => D.loc e.l).set k (.loc s7.length))))[s.length]? = some (.lst (natsD F)) := by rw [set_other (by have := len_of hf1; omega)]; exact hf8
            generalize ((s7 ++ [Ob.lst (L'.map .int)]).set s1.length (.lst ((G6.map fun e => D.loc e.l).set k (.loc s7.length)))) = s9 at *
            have gi9 : GI p w F.length k G (G6.set k ⟨s7.length, L'⟩) := gi6.scale (b := iv) hk6 ⟨tv, by
              have := Int.emod_add_mul_ediv (iv * tv) p
              exact ⟨iv * tv / p, by omega⟩⟩ hLr (fun j hj => by
              show p ∣ L'.getD j 0 - _
              rw [hLat j hj]
              have := Int.emod_add_mul_ediv (iv * eb.row.getD j 0) p
              exact ⟨-(iv * eb.row.getD j 0 / p), by grind⟩) hkm
            have gc0 : GC p w F.length k G (G6.set k ⟨s7.length, L'⟩) ⟨s7.length, L'⟩ 0 := ⟨gi9, List.getElem?_set_self (List.getElem?_eq_some_iff.mp hk6).1, by
              show p ∣ L'.getD k 0 - 1
              rw [hLat k (by omega), htv, hb1]
              exact ⟨0, by omega⟩, fun r e hr => absurd hr (Nat.not_lt_zero _)⟩
            generalize (G6.set k ⟨s7.length, L'⟩) = G9 at *
            have hL9 := (hG9.2 _ (List.mem_of_getElem? gc0.at_)).1
            have eG9 : gLen [.loc s1.length] s9 = some (.int (w : Int), s9) := by rw [gLen_lst hG9.1]; simp [gi9.len]
            simp [eG9]
            refine ⟨by omega, ?_⟩
            clear hG7 hf7 hG8 hf8 ix7 ix6 tv6 hG6 hf6 hk6 eb6
            refine SW_forGo (M3In s p w T xs F s.length s1.length G k s7.length L') ?_ ?_ ?_ ?_
            · exact ⟨_, _, _, _, _, _, G9, rfl, p9, hf9, hG9, gc0⟩
            · intros; simp
            · rintro i dd r1 s10 hdd ⟨v5, v8, v9, v10, v12, v13, G1, rfl, hpre, hf, hG, gc⟩
              obtain ⟨hiw, rfl⟩ := range_get hdd
              obtain ⟨ei, hi, hir⟩ := gc.gi.lt hiw
              have ixi := hG.ix hi
              have ixk := hG.ix gc.at_
              have ri := (hG.2 ei (List.mem_of_getElem? hi)).1
              have rk := (hG.2 _ (List.mem_of_getElem? gc.at_)).1
              have ci := row_ix ri hir.len (show k < F.length + 1 by omega)
              have tb := hir.at (show k < F.length + 1 by omega)
              obtain ⟨tv, htv⟩ : ∃ tv, ei.row.getD k 0 = tv := ⟨_, rfl⟩
              rw [htv] at ci tb
              simp [ixi, ixk, ci]
              by_cases hik : i = k
              · left
                exact ⟨by omega, _, _, _, _, _, _, G1, rfl, hpre, hf, hG, gc.skip (.inl hik)⟩
              · right
                refine ⟨by omega, ?_⟩
                by_cases hz : tv = 0
                · left
                  exact ⟨hz, _, _, _, _, _, _, G1, rfl, hpre, hf, hG, gc.skip (.inr fun e he => by rw [hi] at he; cases he; rw [htv]; exact hz)⟩
                · right
                  refine ⟨hz, ?_⟩
                  have hLr2 := gc.gi.row _ (List.mem_of_getElem? gc.at_)
                  rw [ltimes_spec A hpos (.loc ri) (.loc rk) (by rw [hir.len]; omega) (hLr2.small' hp2)]
                  have q11 : Pre s10 (s10 ++ [Ob.lst ((axpy p ei.row (p - tv) L').map .int)]) := Pre.refl.push
                  have hG11 := hG.pre q11
                  have hn10 := len_of hG.1
                  have hff := len_of hf1
                  simp
                  refine ⟨_, hG11.put (by rw [gc.gi.len]; exact hiw), ?_⟩
                  refine ⟨_, _, _, _, _, _, G1.set i ⟨s10.length, axpy p ei.row (p - tv) L'⟩, rfl, (hpre.trans q11).set q1.1, ?_, hG11.set (e := ⟨s10.length, axpy p ei.row (p - tv) L'⟩) last_of (by show s10.length ≠ _; omega), ?_⟩
                  · rw [set_other (by omega)]
                    exact q11.get hf
                  · exact gc.step (t := p - tv) hi hik (hir.axpy hpos hLr2) (fun j hj => axpy_at hir hLr2 hj) ⟨1, by rw [htv]; omega⟩ hkm
            · rintro r1 s10 ⟨v5, v8, v9, v10, v12, v13, G1, rfl, hpre, hf, hG, gc⟩
              simp at gc
              simp
              exact ⟨_, _, _, _, _, _, _, G1, rfl, hpre, hf, hG, gc.done, by omega⟩
    · rintro r1 s3 ⟨v5, v7, v8, v9, v10, v12, v13, G1, rfl, hpre, hf, hG, gi, hmw⟩
      simp at gi hmw
      simp [slice_drop hG.1]
      have q4 : Pre s3 (s3 ++ [Ob.lst ((G1.map fun e => D.loc e.l).drop F.length)]) := Pre.refl.push
      have hG4 := hG.pre q4
      have hf4 := q4.get hf
      have p4 := hpre.trans q4
      refine lc_rw (f := fun d => match d with | .loc l => (match s3[l]? with | some (.lst ds) => .bl (!decide (lastI ds = 0)) | _ => d) | d => d) (b := fun _ => true) ?_ ?_ ?_ ?_
      · simp [guard_iff]
      · exact small24 (by simp [gi.len]; omega)
      · intro d hd
        rw [← List.map_drop] at hd
        obtain ⟨e, he, rfl⟩ := List.mem_map.mp hd
        have hm := List.mem_of_mem_drop he
        have h1 := row_last (hG4.2 e hm).1 (gi.row e hm).len
        have h2 := lastI_row (gi.row e hm).len
        simp [wipeD, h1, (hG.2 e hm).1]
        rw [h2, List.getD_eq_getElem?_getD]
      · have e6 : (((G1.map fun e => D.loc e.l).drop F.length).filter fun _ => true).map (fun d => match d with | .loc l => (match s3[l]? with | some (.lst ds) => D.bl (!decide (lastI ds = 0)) | _ => d) | d => d) = ((G1.drop F.length).map fun e => !decide (e.row.getD F.length 0 = 0)).map .bl := by
          rw [List.filter_eq_self.mpr fun _ _ => rfl, ← List.map_drop, List.map_map, List.map_map]
          apply List.map_congr_left
          intro e he
          have hm := List.mem_of_mem_drop he
          simp only [Function.comp, (hG.2 e hm).1, lastI_row (gi.row e hm).len]
        rw [e6, any_bls]
        refine ⟨_, rfl, ?_⟩
        by_cases hany : ((G1.drop F.length).map fun e => !decide (e.row.getD F.length 0 = 0)).any id = true
        · right
          refine ⟨by rw [hany], p4, fun hsp => ?_⟩
          rw [List.any_eq_true] at hany
          obtain ⟨b, hb1, hb2⟩ := hany
          obtain ⟨e, he, rfl⟩ := List.mem_map.mp hb1
          obtain ⟨i, hi⟩ := List.mem_iff_getElem?.mp he
          rw [List.getElem?_drop] at hi
          obtain ⟨x, hx2⟩ := (hmade _).mp hsp
          refine gi.nosol (r := F.length + i) (by omega) hi (by simpa using hb2) (x := fun c => if c < F.length then x c else -1) ((hker _).mpr fun j hj => ?_) (by simp)
          rw [sm_congr (g := fun c => x c * famL T (F.getD c 0) j) fun i hi => by rw [if_pos hi], if_neg (by omega)]
          exact dvd1 (-1) (hx2 j hj) (by grind)
        · left
          have hz : ∀ r e, F.length ≤ r → G1[r]? = some e → e.row.getD F.length 0 = 0 := fun r e hr he => by
            refine Classical.byContradiction fun h0 => hany ?_
            rw [List.any_eq_true]
            refine ⟨true, List.mem_map.mpr ⟨e, List.mem_iff_getElem?.mpr ⟨r - F.length, ?_⟩, by simpa using h0⟩, rfl⟩
            rw [List.getElem?_drop]
            have : F.length + (r - F.length) = r := by omega
            rw [this]
            exact he
          have hso := fun j hj => (hker _).mp (gi.sol hz) j hj
          have hso2 : ∀ j, j < w → p ∣ vecL xs j - sm F.length fun c => colG G1 F.length c * famL T (F.getD c 0) j := fun j hj => by
            have h1 := hso j hj
            rw [sm_congr (g := fun c => colG G1 F.length c * famL T (F.getD c 0) j) fun i hi => by rw [if_pos hi], if_neg (by omega)] at h1
            exact dvd1 (-1) h1 (by grind)
          refine ⟨by simpa using hany, small24 (by omega), ?_⟩
          clear e6 hG hf
          generalize (s3 ++ [Ob.lst (List.drop F.length (List.map (fun e => D.loc e.l) G1))]) = s4 at *
          rw [gMul_lst last_of (by omega)]
          have er : List.replicate ((T.length : Int)).toNat (D.int 0) = (List.replicate T.length (0 : Int)).map .int := by simp
          rw [er]
          have q5 : Pre s4 (s4 ++ [Ob.lst [D.int 0]] ++ [Ob.lst ((List.replicate T.length (0 : Int)).map .int)]) := Pre.refl.push.push
          have hG5 := hG4.pre q5
          have hf5 := q5.get hf4
          have p5 := p4.trans q5
          have hb5 : (s4 ++ [Ob.lst [D.int 0]] ++ [Ob.lst ((List.replicate T.length (0 : Int)).map .int)])[(s4 ++ [Ob.lst [D.int 0]]).length]? = some (.lst ((List.replicate T.length (0 : Int)).map .int)) := last_of
          have hbn : (s4 ++ [Ob.lst [D.int 0]]).length ≠ s1.length := by have := len_of hG4.1; simp; omega
          have hbe : ∀ e ∈ G1, (s4 ++ [Ob.lst [D.int 0]]).length ≠ e.l := fun e he => by have := len_of (hG4.2 e he).1; simp; omega
          have hbf : (s4 ++ [Ob.lst [D.int 0]]).length ≠ s.length := by have := len_of hf4; simp; omega
          have hbs : s.length ≤ (s4 ++ [Ob.lst [D.int 0]]).length := by have := p4.1; simp; omega
          generalize (s4 ++ [Ob.lst [D.int 0]]).length = bl at *
          generalize (s4 ++ [Ob.lst [D.int 0]] ++ [Ob.lst ((List.replicate T.length (0 : Int)).map .int)]) = s5 at *
          have e6 : srcD s5 (.loc s.length) = some (natsD F, [(s.length, .lst (natsD F))]) := by simp [srcD, hf5]
          simp
          refine ⟨_, _, e6, ?_⟩
          refine SW_forGo (M4In s p w T xs F s.length s1.length bl G1) ?_ ?_ ?_ ?_
          · exact ⟨_, _, _, _, _, _, _, _, _, rfl, p5, hf5, hG5, hb5, By.start hpos⟩
          · rintro i r1 s6 _ ⟨v5, v6, v7, v8, v9, v10, v12, v13, ys, rfl, hpre, hf, hG, hb, hby⟩
            simpa [guard_iff] using hf
          · rintro i dd r1 s6 hdd ⟨v5, v6, v7, v8, v9, v10, v12, v13, ys, rfl, hpre, hf, hG, hb, hby⟩
            obtain ⟨y, hy, rfl⟩ := numbered_at hdd
            rw [List.getElem?_map, Option.map_eq_some_iff] at hy
            obtain ⟨y, hy, rfl⟩ := hy
            have hiF : i < F.length := (List.getElem?_eq_some_iff.mp hy).1
            have hyF : F.getD i 0 = y := by rw [List.getD_eq_getElem?_getD, hy]; rfl
            have hyT : y < T.length := hFm y (List.mem_of_getElem? hy)
            obtain ⟨e, he, her⟩ := gi.lt (show i < w by omega)
            have ix := hG.ix he
            have il := row_last (hG.2 e (List.mem_of_getElem? he)).1 her.len
            have eb := her.at (show F.length < F.length + 1 by omega)
            have ec : colG G1 F.length i = e.row.getD F.length 0 := by simp only [colG, he]
            have hst := hstep hby hiF (by rw [ec]; exact eb)
            rw [hyF, ec] at hst
            obtain ⟨tv, htv⟩ : ∃ tv, e.row.getD F.length 0 = tv := ⟨_, rfl⟩
            rw [htv] at il hst
            simp [ix, il]
            have put := gSet_lst (v := .int tv) hb (ixN_nn (i := (y : Int)) (by omega) (by simp [hby.len]; omega))
            have ey : (y : Int).toNat = y := by omega
            rw [ey] at put
            refine ⟨_, put, _, _, _, _, _, _, _, _, ys.set y tv, rfl, hpre.set hbs, ?_, ⟨?_, fun e he => ?_⟩, ?_, hst⟩
            · rw [set_other hbf]; exact hf
            · rw [set_other hbn]; exact hG.1
            · rw [set_other (hbe e he)]; exact hG.2 e he
            · rw [set_same hb, List.map_set]
          · rintro r1 s6 ⟨v5, v6, v7, v8, v9, v10, v12, v13, ys, rfl, hpre, hf, hG, hb, hby⟩
            have hl2 : (numbered 0 (natsD F)).length = F.length := by rw [numbered_length]; simp
            rw [hl2] at hby
            simp [gS_of (.loc hb)]
            exact ⟨hpre, _, rfl, hsol hby hso2⟩
end DL
end
/-! ### P23 -/
section
set_option linter.all false
set_option maxRecDepth 100000
/-! P23: added. -/
namespace DL
open PySem PySem.Spec L2
open PyProof.Rows hiding St
open LA
def addT (p : Int) : List Int → List (List Int) → List Int → List Int
  | acc, row :: T, c :: cs => addT p (axpy p acc c row) T cs
  | acc, _, _ => acc
def AdIn (s : Sto) (p : Int) (w : Nat) (T : List (List Int)) (cs : List Int) (i : Nat) (r : Env) (s1 : Sto) : Prop :=
  ∃ (l : Nat) (v5 v6 v7 v8 : Option D) (ys : List Int), r = [some (.int p), some (sumsD T), some (rowD cs), some (.int (w : Int)), some (.loc l), v5, v6, v7, v8] ∧ Pre s s1 ∧ s1[l]? = some (.lst (ys.map .int)) ∧ IsRow p w ys ∧ addT p ys (T.drop i) (cs.drop i) = addT p (List.replicate w 0) T cs
def AlIn (s : Sto) (p : Int) (w : Nat) (T : List (List Int)) (cs : List Int) (i : Nat) (r : Env) (s1 : Sto) : Prop :=
  ∃ (l : Nat) (v5 v6 : Option D) (ys : List Int), r = [some (.int p), some (sumsD T), some (rowD cs), some (.int (w : Int)), some (.loc l), v5, v6] ∧ Pre s s1 ∧ s1[l]? = some (.lst (ys.map .int)) ∧ IsRow p w ys ∧ addT p ys (T.drop i) (cs.drop i) = addT p (List.replicate w 0) T cs
theorem zip_at {T : List (List Int)} {cs : List Int} {i : Nat} {dd : D} (h : (List.zipWith (fun (a : List Int) b => D.tup [rowD a, .int b]) T cs)[i]? = some dd) : ∃ row c, T[i]? = some row ∧ cs[i]? = some c ∧ dd = .tup [rowD row, .int c] := by
  rw [List.getElem?_zipWith] at h
  cases h1 : T[i]? with
  | none => rw [h1] at h; simp at h
  | some row =>
    cases h2 : cs[i]? with
    | none => rw [h1, h2] at h; simp at h
    | some c =>
      rw [h1, h2] at h
      simp at h
      exact ⟨row, c, rfl, rfl, by rw [← h]⟩
theorem drop_at {α : Type} {xs : List α} {i : Nat} {x : α} (h : xs[i]? = some x) : xs.drop i = x :: xs.drop (i + 1) := by
  obtain ⟨h1, h2⟩ := List.getElem?_eq_some_iff.mp h
  rw [List.drop_eq_getElem_cons h1, h2]
theorem addT_end {p : Int} {ys : List Int} {T : List (List Int)} {cs : List Int} (h : T = [] ∨ cs = []) : addT p ys T cs = ys := by
  rcases h with rfl | rfl
  · simp [addT]
  · cases T <;> simp [addT]
theorem added_spec (A : Str → Addr) {s : Sto} {p : Int} {w : Nat} {T : List (List Int)} {cs : List Int} (hp : 0 < p ∧ p ≤ 1000) (hw : w ≤ 50) (hT : ∀ r ∈ T, IsRow p w r) :
    RW (l_added A [.int p, sumsD T, rowD cs, .int (w : Int)] s) fun v s' => Pre s s' ∧ v = rowD (addT p (List.replicate w 0) T cs) := by
  unfold l_added
  rw [RW_def]
  refine ⟨rfl, ?_⟩
  simp
  refine ⟨small24 (by omega), ?_⟩
  rw [gMul_lst last_of (by omega)]
  have er : List.replicate ((w : Int)).toNat (D.int 0) = (List.replicate w (0 : Int)).map .int := by simp
  rw [er]
  have q0 : Pre s (s ++ [Ob.lst [D.int 0]] ++ [Ob.lst ((List.replicate w (0 : Int)).map .int)]) := Pre.refl.push.push
  have hb0 : (s ++ [Ob.lst [D.int 0]] ++ [Ob.lst ((List.replicate w (0 : Int)).map .int)])[(s ++ [Ob.lst [D.int 0]]).length]? = some (.lst ((List.replicate w (0 : Int)).map .int)) := last_of
  generalize (s ++ [Ob.lst [D.int 0]]).length = bl at *
  generalize (s ++ [Ob.lst [D.int 0]] ++ [Ob.lst ((List.replicate w (0 : Int)).map .int)]) = s0 at *
  simp
  refine SW_forGo (AdIn s p w T cs) ?_ ?_ ?_ ?_
  · exact ⟨bl, _, _, _, _, _, rfl, q0, hb0, IsRow.zeros hp.1, by simp⟩
  · intros; simp
  · rintro i dd r1 s1 hdd ⟨l, v5, v6, v7, v8, ys, rfl, hpre, hl, hy, ha⟩
    obtain ⟨row, c, h1, h2, rfl⟩ := zip_at hdd
    have hr := hT row (List.mem_of_getElem? h1)
    rw [drop_at h1, drop_at h2] at ha
    simp only [addT] at ha
    have e6 : srcD s1 (.loc l) = some (ys.map .int, [(l, .lst (ys.map .int))]) := by simp [srcD, hl]
    simp
    refine ⟨_, _, e6, ?_⟩
    refine lc_zip (F := fun a b => (a + c * b) % p) ?_ ?_ ?_ ?_
    · simpa [guard_iff] using hl
    · exact small24 (by rw [hy.len]; omega)
    · intro a _ b hb
      simp [wipeD]
      rw [gMul_r (hr.small' hp.2 b hb)]
      simp [hp.1]
    · exact ⟨s1.length, _, _, _, _, axpy p ys c row, rfl, hpre.push, last_of, hy.axpy hp.1 hr, ha⟩
  · rintro r1 s1 ⟨l, v5, v6, v7, v8, ys, rfl, hpre, hl, hy, ha⟩
    rw [addT_end (by simp; omega)] at ha
    simp [gS_of (.loc hl), ha]
    exact hpre
theorem ladded_spec (A : Str → Addr) {s : Sto} {p : Int} {w : Nat} {T : List (List Int)} {cs : List Int} (hp : 0 < p ∧ p ≤ 1000) (hw : w ≤ 50) (hT : ∀ r ∈ T, IsRow p w r) :
    RW (l_law_added A [.int p, sumsD T, rowD cs, .int (w : Int)] s) fun v s' => Pre s s' ∧ v = rowD (addT p (List.replicate w 0) T cs) := by
  unfold l_law_added
  rw [RW_def]
  refine ⟨rfl, ?_⟩
  simp
  refine ⟨small24 (by omega), ?_⟩
  rw [gMul_lst last_of (by omega)]
  have er : List.replicate ((w : Int)).toNat (D.int 0) = (List.replicate w (0 : Int)).map .int := by simp
  rw [er]
  have q0 : Pre s (s ++ [Ob.lst [D.int 0]] ++ [Ob.lst ((List.replicate w (0 : Int)).map .int)]) := Pre.refl.push.push
  have hb0 : (s ++ [Ob.lst [D.int 0]] ++ [Ob.lst ((List.replicate w (0 : Int)).map .int)])[(s ++ [Ob.lst [D.int 0]]).length]? = some (.lst ((List.replicate w (0 : Int)).map .int)) := last_of
  generalize (s ++ [Ob.lst [D.int 0]]).length = bl at *
  generalize (s ++ [Ob.lst [D.int 0]] ++ [Ob.lst ((List.replicate w (0 : Int)).map .int)]) = s0 at *
  simp
  refine SW_forGo (AlIn s p w T cs) ?_ ?_ ?_ ?_
  · exact ⟨bl, _, _, _, rfl, q0, hb0, IsRow.zeros hp.1, by simp⟩
  · intros; simp
  · rintro i dd r1 s1 hdd ⟨l, v5, v6, ys, rfl, hpre, hl, hy, ha⟩
    obtain ⟨row, c, h1, h2, rfl⟩ := zip_at hdd
    have hr := hT row (List.mem_of_getElem? h1)
    rw [drop_at h1, drop_at h2] at ha
    simp only [addT] at ha
    simp
    rw [ltimes_spec A hp.1 (.loc hl) .tup (by rw [hy.len]; omega) (hr.small' hp.2)]
    exact ⟨s1.length, _, _, axpy p ys c row, rfl, hpre.push, last_of, hy.axpy hp.1 hr, ha⟩
  · rintro r1 s1 ⟨l, v5, v6, ys, rfl, hpre, hl, hy, ha⟩
    rw [addT_end (by simp; omega)] at ha
    simp [gS_of (.loc hl), ha]
    exact hpre
/-- what added gives, place by place -/
theorem addT_row {p : Int} {w : Nat} : ∀ {T : List (List Int)} {cs ys : List Int}, 0 < p → (∀ r ∈ T, IsRow p w r) → IsRow p w ys → IsRow p w (addT p ys T cs)
  | [], cs, ys, _, _, h => by simp [addT]; exact h
  | row :: T, [], ys, _, _, h => by simp [addT]; exact h
  | row :: T, c :: cs, ys, hp, hT, h => by
    simp only [addT]
    exact addT_row hp (fun r hr => hT r (List.mem_cons_of_mem _ hr)) (h.axpy hp (hT row List.mem_cons_self))
theorem sm_front {f : Nat → Int} : ∀ {n : Nat}, sm (n + 1) f = f 0 + sm n fun i => f (i + 1)
  | 0 => by simp [sm]
  | n + 1 => by
    have h := sm_front (f := f) (n := n)
    simp only [sm] at h ⊢
    rw [h]
    omega
theorem addT_at {p : Int} {w : Nat} : ∀ {T : List (List Int)} {cs ys : List Int}, 0 < p → (∀ r ∈ T, IsRow p w r) → IsRow p w ys → cs.length = T.length → ∀ j, j < w → p ∣ (addT p ys T cs).getD j 0 - (ys.getD j 0 + sm T.length fun i => cs.getD i 0 * famL T i j)
  | [], cs, ys, _, _, h, _, j, hj => by simp [addT, sm]
  | row :: T, [], ys, _, _, h, hl, j, hj => by simp at hl
  | row :: T, c :: cs, ys, hp, hT, h, hl, j, hj => by
    have hr := hT row List.mem_cons_self
    have h1 := addT_at (T := T) (cs := cs) hp (fun r hr => hT r (List.mem_cons_of_mem _ hr)) (h.axpy (t := c) hp hr) (by simpa using hl) j hj
    have h2 := axpy_at (t := c) h hr hj
    rw [List.length_cons, sm_front]
    have e1 : (c :: cs).getD 0 0 = c := rfl
    have e2 : famL (row :: T) 0 j = row.getD j 0 := rfl
    rw [e1, e2]
    exact dvd2 1 1 h1 h2 (by
      simp only [addT]
      show _ = _
      have e3 : (sm T.length fun i => (c :: cs).getD (i + 1) 0 * famL (row :: T) (i + 1) j) = sm T.length fun i => cs.getD i 0 * famL T i j := rfl
      rw [e3]
      omega)
end DL
end
/-! ### P24 -/
section
set_option linter.all false
set_option maxRecDepth 100000
/-! P24: is_made, and the law's. -/
namespace DL
open PySem PySem.Spec L2
open PyProof.Rows hiding St
open LA
theorem lint_spec (A : Str → Addr) {d : D} {lo hi : Int} {s : Sto} {t : String} (h : tyD s d = some t) : l_law_is_int A [d, .int lo, .int hi] s = .ok (.bl (inR lo hi d)) s := by
  cases d with
  | int x =>
    apply RW.eq
    unfold l_law_is_int
    simp [inR]
    by_cases h1 : lo ≤ x
    · simp [h1]
    · simp [h1]; omega
  | non => apply RW.eq; unfold l_law_is_int; simp [inR]
  | bl b => apply RW.eq; unfold l_law_is_int; simp [inR]
  | str x => apply RW.eq; unfold l_law_is_int; simp [inR]
  | tup xs => apply RW.eq; unfold l_law_is_int; simp [inR]
  | con v => cases h
  | loc n =>
    apply RW.eq
    unfold l_law_is_int
    simp only [tyD] at h
    split at h
    · rename_i xs e
      simp [gIsi, tyD, e, inR]
    · rename_i xs e
      simp [gIsi, tyD, e, inR]
    · cases h
/-- the type is known, and that of each thing in it -/
def KT (s : Sto) (d : D) : Prop := (∃ t, tyD s d = some t) ∧ ∀ ds, d = .tup ds → ∀ e ∈ ds, ∃ t, tyD s e = some t
theorem ty_pre {s s1 : Sto} (a : Pre s s1) {d : D} {t : String} (h : tyD s d = some t) : tyD s1 d = some t := by
  cases d with
  | loc n =>
    simp only [tyD] at h ⊢
    cases h1 : s[n]? with
    | none => rw [h1] at h; cases h
    | some ob => rw [a.get h1]; rw [h1] at h; exact h
  | _ => exact h
theorem KT.pre {s s1 : Sto} {d : D} (h : KT s d) (a : Pre s s1) : KT s1 d := by
  obtain ⟨⟨t, h1⟩, h2⟩ := h
  refine ⟨⟨t, ty_pre a h1⟩, fun ds e x hx => ?_⟩
  obtain ⟨t, h3⟩ := h2 ds e x hx
  exact ⟨t, ty_pre a h3⟩
def intO : D → Int
  | .int x => x
  | _ => 0
/-- whether a thing is a way to make xs -/
def mdF (p : Int) (w : Nat) (T : List (List Int)) (xs : List Int) : D → Bool
  | .tup ds => decide (ds.length = T.length) && (ds.all (inR 0 (p - 1)) && decide (addT p (List.replicate w 0) T (ds.map intO) = xs))
  | _ => false
theorem ints_of {p : Int} {ds : List D} (h : ds.all (inR 0 (p - 1)) = true) : ds = (ds.map intO).map .int := by
  rw [List.map_map]
  conv => lhs; rw [← List.map_id ds]
  apply List.map_congr_left
  intro d hd
  have := List.all_eq_true.mp h d hd
  cases d <;> simp [inR] at this <;> rfl
theorem py_ints {g : Nat → Option PyData} : ∀ {xs : List Int}, D.pysW g (xs.map .int) = some (xs.map PyData.int)
  | [] => rfl
  | x :: xs => by simp only [List.map_cons, D.pysW, D.pyW, py_ints (xs := xs)]
theorem lay_ints : ∀ {xs : List Int}, PyData.canLayAll0 (xs.map PyData.int) = true
  | [] => by simp [PyData.canLayAll0]
  | x :: xs => by simp [PyData.canLayAll0, PyData.canLay0, lay_ints (xs := xs)]
theorem depth_ints : ∀ {xs : List Int}, PyData.depthAll (xs.map PyData.int) = 0
  | [] => by simp [PyData.depthAll]
  | x :: xs => by simp [PyData.depthAll, PyData.depth, depth_ints (xs := xs)]
theorem shaped_row {xs : List Int} : SeqAt.shaped (.tuple (xs.map PyData.int)) = true := by
  simp [SeqAt.shaped, PyData.canLay0, PyData.depth, lay_ints, depth_ints]
theorem eqv_ints : ∀ {xs ys : List Int}, PyData.eqvAll (xs.map PyData.int) (ys.map PyData.int) = decide (xs = ys)
  | [], [] => by simp [PyData.eqvAll]
  | x :: xs, [] => by simp [PyData.eqvAll]
  | [], y :: ys => by simp [PyData.eqvAll]
  | x :: xs, y :: ys => by
    simp [PyData.eqvAll, PyData.eqv, eqv_ints (xs := xs) (ys := ys)]
    by_cases h : x = y <;> by_cases h2 : xs = ys <;> simp [h, h2]
theorem eqB_rows {s : Sto} {xs ys : List Int} : eqB s (rowD xs) (rowD ys) = some (decide (xs = ys)) := by
  have h : ∀ zs : List Int, (rowD zs).py s = some (.tuple (zs.map PyData.int)) := fun zs => by simp [D.py, D.pyW, py_ints]
  simp only [eqB, h, shaped_row, PyData.eqv, eqv_ints]
  simp
theorem is_made_spec (A : Str → Addr) {s : Sto} {p : Int} {w : Nat} {T : List (List Int)} {xs : List Int} {d : D} (hp : Pr p) (hp2 : p ≤ 251) (hw : 1 ≤ w ∧ w ≤ 10) (hl : T.length ≤ 40) (hT : ∀ r ∈ T, IsSm p w r) (hx : IsSm p w xs) (hd : KT s d) :
    RW (l_is_made A [.int p, sumsD T, rowD xs, d] s) fun v s' => Pre s s' ∧ v = .bl (mdF p w T xs d) := by
  have hpos : 0 < p := by have := hp.two; omega
  unfold l_is_made
  simp [check_sums_ok A hp hp2 hw hl hT, check_sum_ok A hw hT hx]
  cases d with
  | tup ds =>
    simp
    by_cases h1 : ds.length = T.length
    · have hk := hd.2 ds rfl
      left
      refine ⟨by omega, ?_⟩
      refine lc_rw (f := fun e => .bl (inR 0 (p - 1) e)) (b := fun _ => true) ?_ ?_ ?_ ?_
      · simp
      · exact small24 (by omega)
      · intro e he
        obtain ⟨t, ht⟩ := hk e he
        simp [wipeD, within_spec A ht]
      · rw [List.filter_eq_self.mpr fun _ _ => rfl]
        have e1 : ds.map (fun e => D.bl (inR 0 (p - 1) e)) = (ds.map (inR 0 (p - 1))).map .bl := by rw [List.map_map]; rfl
        rw [e1, all_bls]
        refine ⟨_, rfl, ?_⟩
        have e2 : (ds.map (inR 0 (p - 1))).all id = ds.all (inR 0 (p - 1)) := by rw [List.all_map]; rfl
        rw [e2]
        by_cases h2 : ds.all (inR 0 (p - 1)) = true
        · right
          refine ⟨by rw [h2], ?_⟩
          have hi := ints_of h2
          have e3 : mdF p w T xs (.tup ds) = decide (addT p (List.replicate w 0) T (ds.map intO) = xs) := by simp only [mdF, h2]; simp [h1]
          rw [e3]
          clear e3 e2 e1 h2 hk hd
          generalize ds.map intO = cs at hi ⊢
          subst hi
          rw [hx.1.len]
          refine (added_spec A (cs := cs) ⟨hpos, by omega⟩ (by omega) fun r hr => (hT r hr).1).imp fun v s1 ⟨q, e⟩ => ?_
          subst e
          simp [gEq, eqB_rows]
          exact q
        · left
          refine ⟨by simpa using h2, Pre.refl, by simp only [mdF]; simp [h2]⟩
    · right
      exact ⟨by omega, Pre.refl, by simp [mdF, h1]⟩
  | int x => simp [mdF]; exact Pre.refl
  | non => simp [mdF]; exact Pre.refl
  | bl b => simp [mdF]; exact Pre.refl
  | str x => simp [mdF]; exact Pre.refl
  | con v => obtain ⟨⟨t, h⟩, _⟩ := hd; cases h
  | loc n =>
    obtain ⟨⟨t, h⟩, _⟩ := hd
    simp only [tyD] at h
    split at h
    · rename_i xs e
      simp [gIsi, tyD, e, mdF]; exact Pre.refl
    · rename_i xs e
      simp [gIsi, tyD, e, mdF]; exact Pre.refl
    · cases h
theorem lis_made_spec (A : Str → Addr) {s : Sto} {p : Int} {w : Nat} {T : List (List Int)} {xs : List Int} {d : D} (hp : Pr p) (hp2 : p ≤ 251) (hw : 1 ≤ w ∧ w ≤ 10) (hl : T.length ≤ 40) (hT : ∀ r ∈ T, IsSm p w r) (hx : IsSm p w xs) (hd : KT s d) :
    RW (l_law_is_made A [.int p, sumsD T, rowD xs, d] s) fun v s' => Pre s s' ∧ v = .bl (mdF p w T xs d) := by
  have hpos : 0 < p := by have := hp.two; omega
  unfold l_law_is_made
  simp
  cases d with
  | tup ds =>
    simp
    by_cases h1 : ds.length = T.length
    · have hk := hd.2 ds rfl
      left
      refine ⟨by omega, ?_⟩
      refine lc_rw (f := fun e => .bl (inR 0 (p - 1) e)) (b := fun _ => true) ?_ ?_ ?_ ?_
      · simp
      · exact small24 (by omega)
      · intro e he
        obtain ⟨t, ht⟩ := hk e he
        simp [wipeD, lint_spec A ht]
      · rw [List.filter_eq_self.mpr fun _ _ => rfl]
        have e1 : ds.map (fun e => D.bl (inR 0 (p - 1) e)) = (ds.map (inR 0 (p - 1))).map .bl := by rw [List.map_map]; rfl
        rw [e1, all_bls]
        refine ⟨_, rfl, ?_⟩
        have e2 : (ds.map (inR 0 (p - 1))).all id = ds.all (inR 0 (p - 1)) := by rw [List.all_map]; rfl
        rw [e2]
        by_cases h2 : ds.all (inR 0 (p - 1)) = true
        · right
          refine ⟨by rw [h2], ?_⟩
          have hi := ints_of h2
          have e3 : mdF p w T xs (.tup ds) = decide (addT p (List.replicate w 0) T (ds.map intO) = xs) := by simp only [mdF, h2]; simp [h1]
          rw [e3]
          clear e3 e2 e1 h2 hk hd
          generalize ds.map intO = cs at hi ⊢
          subst hi
          rw [hx.1.len]
          refine (ladded_spec A (cs := cs) ⟨hpos, by omega⟩ (by omega) fun r hr => (hT r hr).1).imp fun v s1 ⟨q, e⟩ => ?_
          subst e
          simp [gEq, eqB_rows]
          exact q
        · left
          refine ⟨by simpa using h2, Pre.refl, by simp only [mdF]; simp [h2]⟩
    · right
      exact ⟨by omega, Pre.refl, by simp [mdF, h1]⟩
  | int x => simp [mdF]; exact Pre.refl
  | non => simp [mdF]; exact Pre.refl
  | bl b => simp [mdF]; exact Pre.refl
  | str x => simp [mdF]; exact Pre.refl
  | con v => obtain ⟨⟨t, h⟩, _⟩ := hd; cases h
  | loc n =>
    obtain ⟨⟨t, h⟩, _⟩ := hd
    simp only [tyD] at h
    split at h
    · rename_i xs e
      simp [gIsi, tyD, e, mdF]; exact Pre.refl
    · rename_i xs e
      simp [gIsi, tyD, e, mdF]; exact Pre.refl
    · cases h
end DL
end
/-! ### P25 -/
section
set_option linter.all false
set_option maxRecDepth 100000
/-! P25: things whose type is known. -/
namespace DL
open PySem PySem.Spec L2
open PyProof.Rows hiding St
open LA
theorem ty_ext {s s1 : Sto} (a : Ext s s1) (h1 : HS s1) {d : D} (h : ∃ t, tyD s d = some t) : ∃ t, tyD s1 d = some t := by
  cases d with
  | loc n =>
    obtain ⟨t, h⟩ := h
    by_cases e : n = 2
    · subst e
      obtain ⟨cells, i, x, y, c, _, h2, _⟩ := h1
      exact ⟨"list", by simp only [tyD, h2]⟩
    · simp only [tyD] at h ⊢
      cases h2 : s[n]? with
      | none => rw [h2] at h; cases h
      | some ob =>
        rw [a.2 n e (len_of h2), h2]
        rw [h2] at h
        exact ⟨t, h⟩
  | _ => exact h
theorem KT.ext {s s1 : Sto} {d : D} (h : KT s d) (a : Ext s s1) (h1 : HS s1) : KT s1 d := ⟨ty_ext a h1 h.1, fun ds e x hx => ty_ext a h1 (h.2 ds e x hx)⟩
theorem ty_tup {s : Sto} {ds : List D} : tyD s (.tup ds) = some "tuple" := rfl
def DpIn (s : Sto) (i : Nat) (r : Env) (s1 : Sto) : Prop := ∃ (v : D) (v2 : Option D), r = [some (.loc 2), some v, v2] ∧ Ext s s1 ∧ HS s1 ∧ KT s1 v
theorem ldeep_spec (A : Str → Addr) {s : Sto} (h : HS s) : RW (l_law_deep A [.loc 2] s) fun v s' => Ext s s' ∧ HS s' ∧ KT s' v := by
  have h2 := h.len
  unfold l_law_deep
  rw [RW_def]
  refine ⟨rfl, ?_⟩
  simp
  refine ⟨small24 (by omega), ?_⟩
  refine (any_spec A (xs := [.int 0, .tup [], .str "a"]) h.push (.inr ⟨s.length, by omega, rfl, last_of⟩) (by simp) (by simp)).imp fun v s1 ⟨hv, h1, f1⟩ => ?_
  have e1 : Ext s s1 := (Ext.refl.push).trans f1.ext
  have k1 : KT s1 v := by
    simp at hv
    rcases hv with rfl | rfl | rfl
    · exact ⟨⟨_, rfl⟩, fun ds e => by cases e⟩
    · exact ⟨⟨_, rfl⟩, fun ds e x hx => by cases e; cases hx⟩
    · exact ⟨⟨_, rfl⟩, fun ds e => by cases e⟩
  refine (draw_spec A (many := 12) (by omega) h1).imp fun v2 s2 ⟨r, e, hr0, hr1, h2, f2⟩ => ?_
  subst e
  simp
  refine ⟨by omega, by omega, ?_⟩
  refine SW_forGo (DpIn s) ?_ ?_ ?_ ?_
  · exact ⟨v, _, rfl, e1.trans f2.ext, h2, k1.ext f2.ext h2⟩
  · intros; simp
  · rintro i dd r1 s3 hdd ⟨v, v2, rfl, e3, h3, k3⟩
    simp
    refine (draw_spec A (many := 3) (by omega) h3).imp fun v4 s4 ⟨r, e, hr0, hr1, h4, f4⟩ => ?_
    subst e
    have e4 := e3.trans f4.ext
    have k4 := k3.ext f4.ext h4
    simp
    by_cases hr : 0 < r
    · right
      refine ⟨hr, small24 (by omega), _, _, rfl, e4, h4, ⟨_, rfl⟩, fun ds e x hx => ?_⟩
      cases e
      rw [List.mem_singleton.mp hx]
      exact k4.1
    · left
      refine ⟨by omega, small24 (by omega), _, _, rfl, e4.push, h4.push, ⟨"list", ?_⟩, fun ds e => by cases e⟩
      simp only [tyD, last_of]
  · rintro r1 s3 ⟨v, v2, rfl, e3, h3, k3⟩
    simp
    exact ⟨e3, h3, k3⟩
end DL
end
/-! ### P26a -/
section
set_option linter.all false
set_option maxRecDepth 100000
set_option maxHeartbeats 4000000
/-! P26: odd things. -/
namespace DL
open PySem PySem.Spec L2
open PyProof.Rows hiding St
open LA
theorem disp00 {r : Env} {s : Sto} {Q : List (Key × D) → Sto → Prop} (q : Q [(.inl 0, .int 0)] s) : RW (mDisp [(mC (.int 0), mC (.int 0))] r s) Q := by
  have e : mDisp [(mC (.int 0), mC (.int 0))] r s = .ok [(.inl 0, .int 0)] s := rfl
  rw [e]
  exact q
theorem KT.lst {s : Sto} {n : Nat} {xs : List D} (h : s[n]? = some (.lst xs)) : KT s (.loc n) := ⟨⟨"list", by simp only [tyD, h]⟩, fun _ e => by cases e⟩
theorem KT.dct {s : Sto} {n : Nat} {xs : List (Key × D)} (h : s[n]? = some (.dct xs)) : KT s (.loc n) := ⟨⟨"dict", by simp only [tyD, h]⟩, fun _ e => by cases e⟩
def oddL (n : Nat) : List D := [D.non, D.bl true, D.bl false, D.int (-1), D.int 13, D.int 252, D.int 100000000000000000000000000000000000000000000000000000000000, D.str (Str.ofString "0"), D.str (Str.ofString ""), D.tup [], D.loc n, D.loc (n + 1), D.tup [D.int 0], D.loc (n + 1 + 1), D.tup [D.bl true], D.tup [D.str (Str.ofString "0")], D.tup [D.non, D.int 0]]
theorem oddL_len (n : Nat) : (oddL n).length = 17 := rfl
theorem kt_nt {s : Sto} {d : D} {t : String} (h : tyD s d = some t) (h2 : ∀ ds, d ≠ .tup ds) : KT s d := ⟨⟨t, h⟩, fun ds e => absurd e (h2 ds)⟩
theorem oddL_mem {n : Nat} {x : D} (hx : x ∈ oddL n) : x = .loc n ∨ x = .loc (n + 1) ∨ x = .loc (n + 1 + 1) ∨ ∀ s', KT s' x := by
  unfold oddL at hx
  simp only [List.mem_cons, List.not_mem_nil, or_false] at hx
  have n0 : ∀ ds : List D, D.non ≠ .tup ds := fun ds e => by cases e
  have n1 : ∀ (b : Bool) (ds : List D), D.bl b ≠ .tup ds := fun b ds e => by cases e
  have n2 : ∀ (b : Int) (ds : List D), D.int b ≠ .tup ds := fun b ds e => by cases e
  have n3 : ∀ (b : Str) (ds : List D), D.str b ≠ .tup ds := fun b ds e => by cases e
  have kt : ∀ (s' : Sto) (ds : List D), (∀ e ∈ ds, ∃ t, tyD s' e = some t) → KT s' (.tup ds) := fun s' ds h => ⟨⟨_, rfl⟩, fun es e => by cases e; exact h⟩
  rcases hx with h | h | h | h | h | h | h | h | h | h | h | h | h | h | h | h | h
  all_goals first
    | exact .inl h
    | exact .inr (.inl h)
    | exact .inr (.inr (.inl h))
    | refine .inr (.inr (.inr fun s' => ?_)); rw [h]
  · exact kt_nt rfl n0
  · exact kt_nt rfl (n1 _)
  · exact kt_nt rfl (n1 _)
  · exact kt_nt rfl (n2 _)
  · exact kt_nt rfl (n2 _)
  · exact kt_nt rfl (n2 _)
  · exact kt_nt rfl (n2 _)
  · exact kt_nt rfl (n3 _)
  · exact kt_nt rfl (n3 _)
  · exact kt _ _ fun e he => by cases he
  · exact kt _ _ fun e he => by rw [List.mem_singleton.mp he]; exact ⟨_, rfl⟩
  · exact kt _ _ fun e he => by rw [List.mem_singleton.mp he]; exact ⟨_, rfl⟩
  · exact kt _ _ fun e he => by rw [List.mem_singleton.mp he]; exact ⟨_, rfl⟩
  · exact kt _ _ fun e he => by
      rcases List.mem_cons.mp he with rfl | he
      · exact ⟨_, rfl⟩
      · rw [List.mem_singleton.mp he]; exact ⟨_, rfl⟩
end DL
end
/-! ### P26 -/
section
set_option linter.all false
set_option maxRecDepth 100000
set_option maxHeartbeats 4000000
/-! P26: odd things. -/
namespace DL
open PySem PySem.Spec L2
open PyProof.Rows hiding St
open LA
theorem lodd_spec (A : Str → Addr) {s : Sto} {d : D} (h : HS s) (hd : KT s d) : RW (l_law_odd A [.loc 2, d] s) fun v s' => Ext s s' ∧ HS s' ∧ KT s' v := by
  have hlen := h.len
  unfold l_law_odd
  rw [RW_def]
  refine ⟨rfl, ?_⟩
  simp
  refine ⟨small24 (by omega), small24 (by omega), small24 (by omega), ?_⟩
  rw [show ([D.non, D.bl true, D.bl false, D.int (-1), D.int 13, D.int 252, D.int 100000000000000000000000000000000000000000000000000000000000, D.str (Str.ofString "0"), D.str (Str.ofString ""), D.tup [], D.loc (List.length s), D.loc (List.length s + 1), D.tup [D.int 0], D.loc (List.length s + 1 + 1), D.tup [D.bl true], D.tup [D.str (Str.ofString "0")], D.tup [D.non, D.int 0]] : List D) = oddL s.length from rfl]
  have hLl := oddL_len s.length
  have hLm := fun x => @oddL_mem s.length x
  generalize oddL s.length = L at *
  have app_at : ∀ (q : List Ob) (i : Nat), (s ++ q)[s.length + i]? = q[i]? := fun q i => by rw [List.getElem?_append_right (by omega), Nat.add_sub_cancel_left]
  have q1 : Pre s (s ++ [Ob.lst [], Ob.dct [], Ob.lst [D.int 0], Ob.lst L]) := Pre.refl.push
  have g0 : (s ++ [Ob.lst [], Ob.dct [], Ob.lst [D.int 0], Ob.lst L])[s.length]? = some (.lst []) := app_at _ 0
  have g1 : (s ++ [Ob.lst [], Ob.dct [], Ob.lst [D.int 0], Ob.lst L])[s.length + 1]? = some (.dct []) := app_at _ 1
  have g2 : (s ++ [Ob.lst [], Ob.dct [], Ob.lst [D.int 0], Ob.lst L])[s.length + 1 + 1]? = some (.lst [.int 0]) := app_at _ 2
  have g3 : (s ++ [Ob.lst [], Ob.dct [], Ob.lst [D.int 0], Ob.lst L])[s.length + 1 + 1 + 1]? = some (.lst L) := app_at _ 3
  generalize (s ++ [Ob.lst [], Ob.dct [], Ob.lst [D.int 0], Ob.lst L]) = s1 at *
  refine disp00 ?_
  have h1 := q1.hs h
  refine (ldeep_spec A (h1.push (q := [Ob.dct [(Sum.inl 0, D.int 0)]]))).imp fun v s2 ⟨e2, h2, k2⟩ => ?_
  have e12 : Ext s1 s2 := (Ext.refl.push).trans e2
  have dl : s2[s1.length]? = some (.dct [(Sum.inl 0, D.int 0)]) := e2.get last_of (by have := h1.len; omega)
  have kd : KT s2 d := (hd.pre q1).ext e12 h2
  refine ⟨small24 (by omega), ?_⟩
  have g3' := e12.get g3 (by omega)
  have g4 : (s2 ++ [Ob.lst [D.loc s1.length, d, v]])[List.length s + 1 + 1 + 1]? = some (.lst L) := by rw [List.getElem?_append_left (len_of g3')]; exact g3'
  rw [gAdd_rows g4 last_of (small24 (by rw [hLl]; show 17 + 3 ≤ 1000000; omega))]
  simp
  have g5 : (s2 ++ [Ob.lst [D.loc s1.length, d, v], Ob.lst (L ++ [D.loc s1.length, d, v])])[List.length s2 + 1]? = some (.lst (L ++ [D.loc s1.length, d, v])) := by rw [List.getElem?_append_right (by omega), Nat.add_sub_cancel_left]; rfl
  refine (any_spec A (xs := L ++ [D.loc s1.length, d, v]) h2.push (.inr ⟨_, by have := h2.len; omega, rfl, g5⟩) (by simp) (by simp [hLl])).imp fun v2 s3 ⟨hv, h3, f3⟩ => ?_
  have e23 : Ext s2 s3 := (Ext.refl.push).trans f3.ext
  have e13 : Ext s1 s3 := e12.trans e23
  refine ⟨q1.ext.trans e13, h3, ?_⟩
  have hl2 := h.len
  rcases List.mem_append.mp hv with hv | hv
  · rcases hLm v2 hv with rfl | rfl | rfl | hk
    · exact KT.lst (e13.get g0 (by omega))
    · exact KT.dct (e13.get g1 (by omega))
    · exact KT.lst (e13.get g2 (by omega))
    · exact hk s3
  · simp only [List.mem_cons, List.not_mem_nil, or_false] at hv
    rcases hv with rfl | rfl | rfl
    · exact KT.dct (e23.get dl (by have := h1.len; omega))
    · exact kd.ext e23 h3
    · exact k2.ext e23 h3
end DL
end
/-! ### P27 -/
section
set_option linter.all false
set_option maxRecDepth 100000
set_option maxHeartbeats 4000000
/-! P27: bent values. -/
namespace DL
open PySem PySem.Spec L2
open PyProof.Rows hiding St
open LA
theorem KT.ints {s : Sto} {xs : List Int} : KT s (rowD xs) := ⟨⟨_, rfl⟩, fun ds e x hx => by
  cases e
  obtain ⟨y, _, rfl⟩ := List.mem_map.mp hx
  exact ⟨_, rfl⟩⟩
theorem KT.tup {s : Sto} {ds : List D} (h : ∀ x ∈ ds, ∃ t, tyD s x = some t) : KT s (.tup ds) := ⟨⟨_, rfl⟩, fun es e x hx => by
  cases e
  exact h x hx⟩
theorem slice_any {s : Sto} {ds : List D} {lo hi : Option Int} : ∃ es, gSl s (.tup ds) lo hi = some (.tup es, s) ∧ (∀ x ∈ es, x ∈ ds) ∧ es.length ≤ ds.length :=
  ⟨_, rfl, fun x hx => List.mem_of_mem_drop (List.mem_of_mem_take hx), by simp; omega⟩
theorem slice_to {s : Sto} {ds : List D} {m : Nat} (h : m ≤ ds.length) : gSl s (.tup ds) none (some (m : Int)) = some (.tup (ds.take m), s) := by
  simp only [gSl, HT.sIx_nat, HT.sIx_none, Nat.min_eq_left h, List.drop_zero, Nat.sub_zero]
theorem gMul_zeros {s : Sto} {k : Nat} (h : k ≤ 1000) : gMul (.tup [.int 0]) (.int (k : Int)) s = some (.tup ((List.replicate k (0 : Int)).map .int), s) := by
  rcases Nat.lt_or_ge k 2 with h2 | h2
  · rcases (by omega : k = 0 ∨ k = 1) with rfl | rfl <;> simp [gMul]
  · rw [show (D.int (k : Int)) = .int (k : Int) from rfl]
    rw [gMul_tup (by omega)]
    simp
theorem tys_int {s : Sto} {es : List D} {xs : List Int} (h : ∀ x ∈ es, x ∈ xs.map D.int) : ∀ x ∈ es, ∃ t, tyD s x = some t := fun x hx => by
  obtain ⟨y, _, rfl⟩ := List.mem_map.mp (h x hx)
  exact ⟨_, rfl⟩
theorem gAdd_tup2 {s : Sto} {xs ys : List D} (h : xs.length + ys.length ≤ 1000000) : gAdd (.tup xs) (.tup ys) s = some (.tup (xs ++ ys), s) := by
  simp only [gAdd]
  rw [if_pos (small24 h)]
theorem lbent_spec (A : Str → Addr) {s : Sto} {p : Int} {w : Nat} {T : List (List Int)} {cs : List Int} (h : HS s) (hp : Pr p) (hp2 : p ≤ 251) (hw : 1 ≤ w ∧ w ≤ 10) (hl : T.length ≤ 40) (hT : ∀ r ∈ T, IsSm p w r) (hc : cs.length = T.length) (hb : ∀ x ∈ cs, 0 ≤ x ∧ x < p) :
    RW (l_law_bent A [.loc 2, .int p, sumsD T, rowD cs] s) fun v s' => Ext s s' ∧ HS s' ∧ KT s' v := by
  have hp0 := hp.two
  unfold l_law_bent
  rw [RW_def]
  refine ⟨rfl, ?_⟩
  simp
  by_cases h0 : cs = []
  · right
    refine ⟨h0, ?_⟩
    exact lodd_spec A h ⟨⟨_, rfl⟩, fun _ e => by cases e⟩
  left
  refine ⟨h0, ?_⟩
  have hcl : 0 < cs.length := List.length_pos_iff.mpr h0
  refine (draw_spec A (many := cs.length) (by omega) h).imp fun v1 s1 ⟨a, e, ha0, ha1, h1, f1⟩ => ?_
  subst e
  refine (draw_spec A (many := 10) (by omega) h1).imp fun v2 s2 ⟨b, e, hb0, hb1, h2, f2⟩ => ?_
  subst e
  have e2 : Ext s s2 := f1.ext.trans f2.ext
  clear f1 f2 h1
  simp
  by_cases hb5 : b < 5
  · right
    refine ⟨hb5, ?_⟩
    refine (draw_spec A (many := p) (by omega) h2).imp fun v3 s3 ⟨c, e, _, _, h3, f3⟩ => ?_
    subst e
    obtain ⟨m, rfl⟩ := Int.eq_ofNat_of_zero_le ha0
    have hm : m < cs.length := by omega
    rw [atI_in (a := .int cs[m]) (by omega) (by simp [hm])]
    simp only [Option.map_some, RW_of_some]
    refine ⟨small24 (by omega), ?_⟩
    generalize hL : [D.int c, D.int p, D.int (-1), D.bl true, D.bl false, D.non, D.str (Str.ofString "0"), D.int cs[m], D.int (p - 1), D.int 0] = L
    have hLk : ∀ x ∈ L, ∀ s', ∃ t, tyD s' x = some t := by
      intro x hx s'
      rw [← hL] at hx
      simp only [List.mem_cons, List.not_mem_nil, or_false] at hx
      rcases hx with rfl | rfl | rfl | rfl | rfl | rfl | rfl | rfl | rfl | rfl <;> exact ⟨_, rfl⟩
    have hLl : L.length = 10 := by rw [← hL]; rfl
    clear hL
    obtain ⟨es, e5, m5, l5⟩ := slice_any (s := s3 ++ [Ob.lst L]) (ds := cs.map D.int) (lo := none) (hi := some (m : Int))
    rw [show rowD cs = D.tup (cs.map D.int) from rfl, e5, RW_of_some]
    have hs3 := h3.len
    refine (any_spec A (xs := L) h3.push (.inr ⟨_, by omega, rfl, last_of⟩) (by intro z; rw [z] at hLl; cases hLl) (by omega)).imp fun v4 s4 ⟨hv, h4, f4⟩ => ?_
    have e4 : Ext s s4 := (e2.trans (f3.ext.push)).trans f4.ext
    rw [List.length_map] at l5
    rw [gAdd_tup2 (by simp; omega)]
    refine ⟨one_le_size, ?_⟩
    rw [RW_of_some]
    obtain ⟨es2, e6, m6, l6⟩ := slice_any (s := s4) (ds := cs.map D.int) (lo := some ((m : Int) + 1)) (hi := none)
    rw [List.length_map] at l6
    rw [e6, RW_of_some, gAdd_tup2 (by simp; omega), RW_of_some]
    refine ⟨e4, h4, KT.tup fun x hx => ?_⟩
    rcases List.mem_append.mp hx with hx | hx
    · rcases List.mem_append.mp hx with hx | hx
      · exact tys_int m5 x hx
      · rw [List.mem_singleton.mp hx]
        exact hLk v4 hv s4
    · exact tys_int m6 x hx
  left
  refine ⟨by omega, ?_⟩
  by_cases hb8 : b < 8
  · right
    refine ⟨hb8, ?_⟩
    refine (draw_spec A (many := T.length) (by omega) h2).imp fun v3 s3 ⟨c, e, hc0, hc1, h3, f3⟩ => ?_
    subst e
    have e3 := e2.trans f3.ext
    simp
    by_cases hcz : c ≤ 0
    · left
      exact ⟨hcz, e3, h3, KT.ints⟩
    right
    refine ⟨by omega, ?_⟩
    obtain ⟨m, rfl⟩ := Int.eq_ofNat_of_zero_le hc0
    have hm : m < T.length := by omega
    rw [show sumsD T = D.tup (T.map rowD) from rfl, slice_to (by rw [List.length_map]; omega), RW_of_some]
    rw [atI_in (a := rowD T[m]) (by omega) (by simp [hm]), ← List.map_take]
    simp only [Option.map_some, RW_of_some]
    have hT' : ∀ r ∈ T, IsRow p w r := fun r hr => (hT r hr).1
    refine (lmade_spec A (T := T.take m) (xs := T[m]) hp (by omega) (by omega) (by rw [List.length_take]; omega) (fun r hr => hT' r (List.mem_of_mem_take hr)) (hT' _ (List.getElem_mem hm))).imp fun v4 s4 ⟨q4, hv⟩ => ?_
    have h4 := q4.hs h3
    have e4 := e3.trans q4.ext
    rcases hv with ⟨rfl, _⟩ | ⟨c, rfl, hc⟩
    · rw [gIs_nn, RW_of_some]
      exact .inr ⟨rfl, e4, h4, KT.ints⟩
    rw [gIs_tn, RW_of_some]
    refine .inl ⟨rfl, ?_⟩
    have hcl' : c.length = m := by rw [hc.len, List.length_take]; omega
    refine (draw_spec A (many := p - 1) (by omega) h4).imp fun v5 s5 ⟨t, e, ht0, ht1, h5, f5⟩ => ?_
    subst e
    have e5 := e4.trans f5.ext
    rw [show gAdd (D.int 1) (D.int t) s5 = some (D.int (1 + t), s5) from rfl, RW_of_some]
    refine ⟨one_le_size, ?_⟩
    rw [gAdd_tup2 (by simp; omega), RW_of_some]
    refine ⟨one_le_size, ?_⟩
    rw [show ((T.length : Int) - (m : Int) - 1) = ((T.length - m - 1 : Nat) : Int) by omega, gMul_zeros (by omega), RW_of_some]
    rw [gAdd_tup2 (by simp; omega), RW_of_some]
    rw [show c.map D.int ++ [D.int (p - 1)] ++ (List.replicate (T.length - m - 1) (0 : Int)).map D.int = (c ++ [p - 1] ++ List.replicate (T.length - m - 1) (0 : Int)).map D.int by simp]
    rw [ltimes_spec A (by omega) (.tup) (.tup) (by omega) (fun y hy => ?_)]
    · rw [RW_ok, gS_of (.loc last_of), Option.map_some, RW_of_some]
      exact ⟨e5.push, h5.push, KT.ints⟩
    · rcases List.mem_append.mp hy with hy | hy
      · rcases List.mem_append.mp hy with hy | hy
        · have := hc.bd y hy; omega
        · rw [List.mem_singleton.mp hy]; omega
      · rw [(List.mem_replicate.mp hy).2]; omega
  left
  refine ⟨by omega, ?_⟩
  refine ⟨cs.map .int, rfl, ?_⟩
  obtain ⟨es, e5, m5, l5⟩ := slice_any (s := s2 ++ [Ob.lst (cs.map D.int)]) (ds := cs.map D.int) (lo := none) (hi := some (-1))
  rw [show rowD cs = D.tup (cs.map D.int) from rfl, e5, RW_of_some]
  refine ⟨one_le_size, ?_⟩
  rw [gAdd_tup2 (by simp; omega), RW_of_some]
  have q3 : Pre s2 (s2 ++ [Ob.lst (cs.map D.int)]) := Pre.refl.push
  have g3 : (s2 ++ [Ob.lst (cs.map D.int)])[s2.length]? = some (.lst (cs.map D.int)) := last_of
  generalize (s2 ++ [Ob.lst (cs.map D.int)]) = s3 at *
  have h3 := q3.hs h2
  refine (lodd_spec A (d := sumsD T) h3 (KT.tup fun x hx => by obtain ⟨y, _, rfl⟩ := List.mem_map.mp hx; exact ⟨_, rfl⟩)).imp fun v4 s4 ⟨e4, h4, k4⟩ => ?_
  refine ⟨small24 (by omega), ?_⟩
  have hs4 := h4.len
  have hs2 := h2.len
  refine (any_spec A (xs := [D.loc s2.length, D.tup es, D.tup (cs.map D.int ++ [D.int 0]), D.tup (cs.map D.int).reverse, v4]) h4.push (.inr ⟨_, by omega, rfl, last_of⟩) (by simp) (by simp)).imp fun v5 s5 ⟨hv, h5, f5⟩ => ?_
  have e45 : Ext s4 s5 := (Ext.refl.push).trans f5.ext
  refine ⟨((e2.trans q3.ext).trans e4).trans e45, h5, ?_⟩
  simp only [List.mem_cons, List.not_mem_nil, or_false] at hv
  rcases hv with rfl | rfl | rfl | rfl | rfl
  · exact KT.lst ((e4.trans e45).get g3 (by omega))
  · exact KT.tup (tys_int m5)
  · exact KT.tup (tys_int (xs := cs ++ [0]) fun x hx => by rw [List.map_append]; exact hx)
  · exact KT.tup (tys_int (xs := cs) fun x hx => by simpa using hx)
  · exact k4.ext e45 h5
end DL
end
/-! ### P28 -/
section
set_option linter.all false
set_option maxRecDepth 100000
set_option maxHeartbeats 4000000
/-! P28: drawn primes; values that make a sum. -/
namespace DL
open PySem PySem.Spec L2
open PyProof.Rows hiding St
open LA
theorem pr_of {n : Nat} (h2 : 2 ≤ n) (h : (List.range n).all (fun q => decide (q < 2) || decide (n % q ≠ 0)) = true) : Pr (n : Int) := by
  refine ⟨by omega, fun q h1 h3 => ?_⟩
  obtain ⟨m, rfl⟩ := Int.eq_ofNat_of_zero_le (show 0 ≤ q by omega)
  have := List.all_eq_true.mp h m (List.mem_range.mpr (by omega))
  simp only [Bool.or_eq_true, decide_eq_true_eq] at this
  rcases this with z | z
  · omega
  · intro e
    exact z (by omega)
theorem lprime_spec (A : Str → Addr) {s : Sto} (h : HS s) : RW (l_law_prime A [.loc 2] s) fun v s' => Ext s s' ∧ HS s' ∧ ∃ p : Int, v = .int p ∧ Pr p ∧ p ≤ 251 := by
  unfold l_law_prime
  rw [RW_def]
  refine ⟨rfl, ?_⟩
  have := h.len
  simp
  refine ⟨small24 (by omega), ?_⟩
  refine (any_spec A h.push (.inr ⟨_, by omega, rfl, last_of⟩) (by simp) (by simp)).imp fun v s1 ⟨hv, h1, f1⟩ => ?_
  refine ⟨(Ext.refl.push).trans f1.ext, h1, ?_⟩
  simp only [List.mem_cons, List.not_mem_nil, or_false] at hv
  rcases hv with rfl | rfl | rfl | rfl | rfl | rfl | rfl | rfl | rfl | rfl | rfl | rfl | rfl | rfl
  all_goals first
    | exact ⟨2, rfl, pr_of (n := 2) (by omega) (by decide +kernel), by omega⟩
    | exact ⟨3, rfl, pr_of (n := 3) (by omega) (by decide +kernel), by omega⟩
    | exact ⟨5, rfl, pr_of (n := 5) (by omega) (by decide +kernel), by omega⟩
    | exact ⟨7, rfl, pr_of (n := 7) (by omega) (by decide +kernel), by omega⟩
    | exact ⟨11, rfl, pr_of (n := 11) (by omega) (by decide +kernel), by omega⟩
    | exact ⟨13, rfl, pr_of (n := 13) (by omega) (by decide +kernel), by omega⟩
    | exact ⟨31, rfl, pr_of (n := 31) (by omega) (by decide +kernel), by omega⟩
    | exact ⟨97, rfl, pr_of (n := 97) (by omega) (by decide +kernel), by omega⟩
    | exact ⟨251, rfl, pr_of (n := 251) (by omega) (by decide +kernel), by omega⟩
theorem mdF_sol {p : Int} {w : Nat} {T : List (List Int)} {xs c : List Int} (hp : 0 < p) (hT : ∀ r ∈ T, IsRow p w r) (hx : IsRow p w xs) (h : Sol p w T.length (famL T) (vecL xs) c) : mdF p w T xs (rowD c) = true := by
  have h1 := addT_row (p := p) (w := w) (T := T) (cs := c) hp hT (IsRow.zeros hp)
  have h2 := addT_at (p := p) (w := w) (T := T) (cs := c) hp hT (IsRow.zeros hp) h.len
  have e : addT p (List.replicate w 0) T c = xs := by
    refine List.ext_getElem (by rw [h1.len, hx.len]) fun j h3 h4 => ?_
    have hj : j < w := by rw [hx.len] at h4; exact h4
    have a := h2 j hj
    have b := h.eq j hj
    have c1 := h1.bd _ (List.getElem_mem h3)
    have c2 := hx.bd _ (List.getElem_mem h4)
    have z : (List.replicate w (0 : Int)).getD j 0 = 0 := by simp [List.getD, hj]
    have g1 : (addT p (List.replicate w 0) T c).getD j 0 = (addT p (List.replicate w 0) T c)[j] := by simp [List.getD, h3]
    have g2 : vecL xs j = xs[j] := by simp [vecL, List.getD, h4]
    rw [z, g1] at a
    rw [g2] at b
    have d := dvd2 1 (-1) a b (x := (addT p (List.replicate w 0) T c)[j] - xs[j]) (by grind)
    obtain ⟨k, hk⟩ := d
    have : k = 0 := by
      rcases Int.lt_trichotomy k 0 with z | z | z
      · have := Int.mul_le_mul_of_nonneg_left (show k ≤ -1 by omega) (show 0 ≤ p by omega)
        omega
      · exact z
      · have := Int.mul_le_mul_of_nonneg_left (show 1 ≤ k by omega) (show 0 ≤ p by omega)
        omega
    subst this
    omega
  have ei : (c.map D.int).all (DL.inR 0 (p - 1)) = true := by
    rw [List.all_map, List.all_eq_true]
    intro x hx
    have := h.bd x hx
    simp only [Function.comp, DL.inR, Bool.and_eq_true, decide_eq_true_eq]
    omega
  have em : (c.map D.int).map intO = c := by rw [List.map_map]; exact List.map_id _
  simp only [mdF, ei, em, e, List.length_map, h.len]
  simp
theorem callS {f : MF} {v : V} {r : DL.Env} {s : Sto} {Q : D → Sto → Prop} : RW (mCallS f (some (.con v) :: r) s) Q ↔ RW (f [.con v] s) Q := Iff.rfl
theorem gNe_rows {s : Sto} {xs ys : List Int} : gNe (rowD xs) (rowD ys) s = some (.bl (!decide (xs = ys)), s) := by simp only [gNe, eqB_rows]; rfl
theorem same_mod {p a b : Int} (ha : 0 ≤ a ∧ a < p) (hb : 0 ≤ b ∧ b < p) (d : p ∣ a - b) : a = b := by
  have h1 := Int.emod_eq_of_lt ha.1 ha.2
  have h2 := Int.emod_eq_of_lt hb.1 hb.2
  have h3 := (Int.emod_emod_of_dvd a (Int.dvd_refl p))
  have : a % p = b % p := Int.emod_eq_emod_iff_emod_sub_eq_zero.mpr (Int.emod_eq_zero_of_dvd d)
  omega
end DL
end
/-! ### Q1 -/
section
set_option linter.all false
set_option maxRecDepth 100000
set_option maxHeartbeats 4000000
/-! Q1: ladders: there is just one; no program. -/
namespace DL
open LA
abbrev vsP (R : List (Nat × List Int)) : List Vec := R.map fun e => vecL e.2
/-- a ladder of the span of Ss -/
structure LD (p : Int) (w : Nat) (Ss : List Vec) (R : List (Nat × List Int)) : Prop where
  row : ∀ e ∈ R, IsRow p w e.2
  asc : R.Pairwise fun a b => a.1 < b.1
  lt : ∀ e ∈ R, e.1 < w
  one : ∀ e ∈ R, p ∣ e.2.getD e.1 0 - 1
  low : ∀ e ∈ R, ∀ j, j < e.1 → p ∣ e.2.getD j 0
  off : ∀ e ∈ R, ∀ e' ∈ R, e.1 ≠ e'.1 → p ∣ e'.2.getD e.1 0
  up : ∀ e ∈ R, Sp p w Ss (vecL e.2)
  down : ∀ v ∈ Ss, Sp p w (vsP R) v
abbrev rowsP (R : List (Nat × List Int)) : List (Nat × Vec) := R.map fun e => (e.1, vecL e.2)
theorem vs_rowsP (R : List (Nat × List Int)) : vs (rowsP R) = vsP R := by simp [vs]
section
variable {p : Int} {w : Nat} {Ss Ss' : List Vec} {R R' : List (Nat × List Int)}
theorem tri_of : ∀ {R : List (Nat × List Int)}, R.Pairwise (fun a b => a.1 < b.1) → (∀ e ∈ R, e.1 < w) → (∀ e ∈ R, p ∣ e.2.getD e.1 0 - 1) → (∀ e ∈ R, ∀ e' ∈ R, e.1 ≠ e'.1 → p ∣ e'.2.getD e.1 0) → Tri p w (rowsP R)
  | [], _, _, _, _ => trivial
  | e :: R, h1, h2, h3, h4 => by
    have a := List.pairwise_cons.mp h1
    refine ⟨h2 e List.mem_cons_self, h3 e List.mem_cons_self, fun x hx => ?_, tri_of a.2 (fun x hx => h2 x (List.mem_cons_of_mem _ hx)) (fun x hx => h3 x (List.mem_cons_of_mem _ hx)) fun x hx y hy => h4 x (List.mem_cons_of_mem _ hx) y (List.mem_cons_of_mem _ hy)⟩
    obtain ⟨y, hy, rfl⟩ := List.mem_map.mp hx
    exact h4 e List.mem_cons_self y (List.mem_cons_of_mem _ hy) (by have := a.1 y hy; omega)
theorem LD.tri (h : LD p w Ss R) : Tri p w (rowsP R) := tri_of h.asc h.lt h.one h.off
/-- where no row has its place, the first value that is not 0 can't stand -/
theorem piv_zero : ∀ {R : List (Nat × List Int)}, Tri p w (rowsP R) → (∀ e ∈ R, ∀ j, j < e.1 → p ∣ e.2.getD j 0) → ∀ {v : Vec} {q : Nat}, q < w → Sp p w (vsP R) v → (∀ j, j < q → p ∣ v j) → (∀ e ∈ R, e.1 ≠ q) → p ∣ v q
  | [], _, _, v, q, hq, hv, _, _ => hv q hq
  | e :: R, ⟨t1, t2, t3, t4⟩, hl, v, q, hq, ⟨r, hv⟩, h0, hn => by
    have hne := hn e List.mem_cons_self
    have ih := fun {u : Vec} => piv_zero t4 (fun x hx => hl x (List.mem_cons_of_mem _ hx)) (v := u) hq
    have hr : p ∣ v e.1 - r * e.2.getD e.1 0 := Sp.at t1 (fun M hM => by
      obtain ⟨x, hx, rfl⟩ := List.mem_map.mp hM
      exact t3 _ (List.mem_map.mpr ⟨x, hx, rfl⟩)) hv
    rcases Nat.lt_or_ge e.1 q with h | h
    · have hr0 : p ∣ r := dvd3 (-1) 1 (-r) hr (h0 _ h) t2 (by simp only [vecL]; grind)
      have := ih hv (fun j hj => dvd2 1 (-(vecL e.2 j)) (h0 j hj) hr0 (by grind)) fun x hx => hn x (List.mem_cons_of_mem _ hx)
      exact dvd2 1 (vecL e.2 q) this hr0 (by grind)
    · have hql : ∀ j, j ≤ q → p ∣ e.2.getD j 0 := fun j hj => hl e List.mem_cons_self j (by omega)
      have := ih hv (fun j hj => dvd2 1 (-r) (h0 j hj) (hql j (by omega)) (by simp only [vecL]; grind)) fun x hx => hn x (List.mem_cons_of_mem _ hx)
      exact dvd2 1 r this (hql q (Nat.le_refl _)) (by simp only [vecL]; grind)
theorem LD.sub (hp : 2 ≤ p) (h : LD p w Ss R) (h' : LD p w Ss' R') (hs : ∀ v ∈ Ss, Sp p w Ss' v) : ∀ e ∈ R, ∃ e' ∈ R', e'.1 = e.1 := by
  intro e he
  apply Classical.byContradiction
  intro hn
  have hv : Sp p w (vsP R') (vecL e.2) := Sp.trans h'.down (Sp.trans hs (h.up e he))
  have := piv_zero h'.tri h'.low (h.lt e he) hv (h.low e he) fun x hx hq => hn ⟨x, hx, hq⟩
  have h1 := h.one e he
  have : p ∣ 1 := dvd2 1 (-1) this h1 (by simp only [vecL]; grind)
  have := Int.le_of_dvd (by omega) this
  omega
theorem strict_extN {l m : List Nat} (h1 : l.Pairwise (· < ·)) (h2 : m.Pairwise (· < ·)) (h : ∀ k, k ∈ l ↔ k ∈ m) : l = m := by
  have e : (l.map fun (i : Nat) => (i : Int)) = m.map fun (i : Nat) => (i : Int) := strict_ext (List.pairwise_map.mpr (h1.imp fun h => by omega)) (List.pairwise_map.mpr (h2.imp fun h => by omega)) fun k => by
    simp only [List.mem_map]
    constructor
    · rintro ⟨a, ha, rfl⟩; exact ⟨a, (h a).mp ha, rfl⟩
    · rintro ⟨a, ha, rfl⟩; exact ⟨a, (h a).mpr ha, rfl⟩
  have := congrArg (List.map Int.toNat) e
  rw [List.map_map, List.map_map] at this
  have id_ : ∀ l : List Nat, l.map (Int.toNat ∘ fun (i : Nat) => (i : Int)) = l := fun l => by
    rw [List.map_congr_left (g := id) fun a _ => by simp]
    simp
  rwa [id_, id_] at this
theorem pairs_ext : ∀ {R R' : List (Nat × List Int)}, R.map (·.1) = R'.map (·.1) → (R.map (·.1)).Nodup → (∀ e ∈ R, ∀ e' ∈ R', e.1 = e'.1 → e.2 = e'.2) → R = R'
  | [], [], _, _, _ => rfl
  | [], _ :: _, h, _, _ => by simp at h
  | _ :: _, [], h, _, _ => by simp at h
  | e :: R, e' :: R', h, hn, hh => by
    simp only [List.map_cons, List.cons.injEq] at h
    have h2 := hh e List.mem_cons_self e' List.mem_cons_self h.1
    have : e = e' := Prod.ext h.1 h2
    rw [this, pairs_ext h.2 (List.nodup_cons.mp hn).2 fun x hx y hy => hh x (List.mem_cons_of_mem _ hx) y (List.mem_cons_of_mem _ hy)]
/-- there is just one -/
theorem LD.uniq (hp : 2 ≤ p) (h : LD p w Ss R) (h' : LD p w Ss' R') (hs : ∀ v ∈ Ss, Sp p w Ss' v) (hs' : ∀ v ∈ Ss', Sp p w Ss v) : R = R' := by
  have asc : ∀ {R : List (Nat × List Int)}, R.Pairwise (fun a b => a.1 < b.1) → (R.map (·.1)).Pairwise (· < ·) := fun h => List.pairwise_map.mpr h
  have ep : R.map (·.1) = R'.map (·.1) := strict_extN (asc h.asc) (asc h'.asc) fun k => by
    simp only [List.mem_map]
    constructor
    · rintro ⟨e, he, rfl⟩
      obtain ⟨e', h1, h2⟩ := h.sub hp h' hs e he
      exact ⟨e', h1, h2⟩
    · rintro ⟨e, he, rfl⟩
      obtain ⟨e', h1, h2⟩ := h'.sub hp h hs' e he
      exact ⟨e', h1, h2⟩
  refine pairs_ext ep ((asc h.asc).imp fun h => by omega) fun e he e' he' hq => ?_
  have r1 := h.row e he
  have r2 := h'.row e' he'
  have hd : Sp p w (vsP R) (fun j => vecL e.2 j - vecL e'.2 j) := by
    have a : Sp p w (vsP R) (vecL e.2) := Sp.mem (List.mem_map.mpr ⟨e, he, rfl⟩)
    have b : Sp p w (vsP R) (vecL e'.2) := Sp.trans h.down (Sp.trans hs' (h'.up e' he'))
    exact a.sub b
  have hz : Z p w (fun j => vecL e.2 j - vecL e'.2 j) := by
    refine tri_zero h.tri (by rw [vs_rowsP]; exact hd) fun x hx => ?_
    obtain ⟨y, hy, rfl⟩ := List.mem_map.mp hx
    simp only [vecL]
    by_cases e1 : y.1 = e.1
    · have a := h.one e he
      have b := h'.one e' he'
      rw [e1]
      rw [← hq] at b
      exact dvd2 1 (-1) a b (by grind)
    · have a := h.off y hy e he e1
      obtain ⟨y', hy', e2⟩ := h.sub hp h' hs y hy
      have b := h'.off y' hy' e' he' (by rw [e2, ← hq]; exact e1)
      rw [e2] at b
      exact dvd2 1 (-1) a b (by grind)
  refine List.ext_getElem (by rw [r1.len, r2.len]) fun j h1 h2 => ?_
  have := hz j (by rw [← r1.len]; exact h1)
  simp only [vecL, List.getD, List.getElem?_eq_getElem h1, List.getElem?_eq_getElem h2, Option.getD_some] at this
  exact same_mod (r1.bd _ (List.getElem_mem h1)) (r2.bd _ (List.getElem_mem h2)) this
end
end DL
end
/-! ### Q2 -/
section
set_option linter.all false
set_option maxRecDepth 100000
set_option maxHeartbeats 4000000
/-! Q2: ladder_of, ladder. -/
namespace DL
open PySem PySem.Spec L2
open PyProof.Rows hiding St
open LA
abbrev srtE (E : List En) : List En := sortK (fun e => (e.q : Int)) E
theorem mem_srtE {E : List En} {e : En} : e ∈ srtE E ↔ e ∈ E := (sortK_perm (fun e : En => (e.q : Int)) E).mem_iff
theorem srtE_lt {E : List En} (h : (E.map (·.q)).Nodup) : (srtE E).Pairwise (fun a b => a.q < b.q) := by
  have h1 := sortK_sorted (fun e : En => (e.q : Int)) E
  have h2 : ((srtE E).map (·.q)).Nodup := ((sortK_perm (fun e : En => (e.q : Int)) E).map (·.q)).nodup_iff.mpr h
  rw [List.nodup_iff_pairwise_ne, List.pairwise_map] at h2
  exact (h1.and h2).imp fun {a b} ⟨x, y⟩ => by omega
abbrev prE (E : List En) : List (Nat × List Int) := (srtE E).map fun e => (e.q, e.L)
/-- the rows of a ladder of T's -/
def IsLad (p : Int) (w : Nat) (T rows : List (List Int)) : Prop := ∃ R, rows = R.map (·.2) ∧ LD p w (upto (famL T) T.length) R
theorem up_mem {T : List (List Int)} {v : Vec} (h : v ∈ upto (famL T) T.length) : ∃ r ∈ T, v = vecL r := by
  obtain ⟨i, hi, rfl⟩ := List.mem_map.mp h
  have hi := List.mem_range.mp hi
  exact ⟨T[i], List.getElem_mem hi, by simp [famL, List.getD_eq_getElem?_getD, hi]⟩
theorem mem_up {T : List (List Int)} {r : List Int} (h : r ∈ T) : vecL r ∈ upto (famL T) T.length := by
  obtain ⟨i, hi, rfl⟩ := List.mem_iff_getElem.mp h
  exact List.mem_map.mpr ⟨i, List.mem_range.mpr hi, by simp [famL, List.getD_eq_getElem?_getD, hi]⟩
theorem SI.ld {p : Int} {w : Nat} {T : List (List Int)} {E : List En} (h : SI p w (famL T) T.length E) : LD p w (upto (famL T) T.length) (prE E) := by
  have hm : ∀ x, x ∈ prE E → ∃ e ∈ E, x = (e.q, e.L) := fun x hx => by
    obtain ⟨e, he, rfl⟩ := List.mem_map.mp hx
    exact ⟨e, mem_srtE.mp he, rfl⟩
  refine ⟨fun x hx => ?_, List.pairwise_map.mpr (srtE_lt h.rr.nd), fun x hx => ?_, fun x hx => ?_, fun x hx => ?_, fun x hx y hy => ?_, fun x hx => ?_, fun v hv => ?_⟩
  · obtain ⟨e, he, rfl⟩ := hm x hx; exact h.rr.row e he
  · obtain ⟨e, he, rfl⟩ := hm x hx; exact h.rr.lt e he
  · obtain ⟨e, he, rfl⟩ := hm x hx; exact h.rr.one e he
  · obtain ⟨e, he, rfl⟩ := hm x hx; exact h.rr.low e he
  · obtain ⟨e, he, rfl⟩ := hm x hx
    obtain ⟨f, hf, rfl⟩ := hm y hy
    exact h.rr.off e he f hf
  · obtain ⟨e, he, rfl⟩ := hm x hx
    exact h.up _ (List.mem_map.mpr ⟨e, he, rfl⟩)
  · obtain ⟨i, hi, rfl⟩ := List.mem_map.mp hv
    refine (h.all i (List.mem_range.mp hi)).mono fun L hL => ?_
    obtain ⟨e, he, rfl⟩ := List.mem_map.mp hL
    exact List.mem_map.mpr ⟨(e.q, e.L), List.mem_map.mpr ⟨e, mem_srtE.mpr he, rfl⟩, rfl⟩
theorem find_q {e : En} : ∀ {E : List En}, (E.map (·.q)).Nodup → e ∈ E → E.find? (fun e' => decide ((e'.q : Int) = (e.q : Int))) = some e
  | [], _, he => by cases he
  | x :: E, hnd, he => by
    simp only [List.map_cons, List.nodup_cons] at hnd
    rcases List.mem_cons.mp he with rfl | he
    · simp
    · have : x.q ≠ e.q := fun e1 => hnd.1 (List.mem_map.mpr ⟨e, he, e1.symm⟩)
      rw [List.find?_cons_of_neg (by simp; omega)]
      exact find_q hnd.2 he
theorem ladder_of_spec (A : Str → Addr) {s : Sto} {p : Int} {w : Nat} {T : List (List Int)} (hp : Pr p) (hp2 : p ≤ 251) (hw : w ≤ 50) (hl : T.length ≤ 40) (hT : ∀ r ∈ T, IsRow p w r) :
    RW (l_ladder_of A [.int p, sumsD T] s) fun v s' => Pre s s' ∧ ∃ rows, v = sumsD rows ∧ IsLad p w T rows := by
  unfold l_ladder_of
  simp
  refine (steps_spec A hp (by omega) (by omega) (by omega) hT).imp fun v s1 ⟨p1, k, E, e, hk, hst, hsi, _⟩ => ?_
  subst e
  obtain ⟨dl, hk1, hdl⟩ := hst.ob
  refine ⟨k, rfl, _, _, hk1, rfl, _, lk_kept_rows, _, gSrt_kv hdl hsi.rr.few, ?_⟩
  have hmem : ∀ x ∈ (isort (E.map fun e => (e.q : Int))), ∃ e ∈ E, x = (e.q : Int) := fun x hx => by
    rw [← sortK_keys (fun e : En => (e.q : Int)) E] at hx
    obtain ⟨e, he, rfl⟩ := List.mem_map.mp hx
    exact ⟨e, mem_srtE.mp he, rfl⟩
  let fE : Int → D := fun x => match E.find? (fun e => decide ((e.q : Int) = x)) with
    | some e => rowD e.L
    | none => .non
  have hfE : ∀ e ∈ E, fE (e.q : Int) = rowD e.L := fun e he => by
    have : E.find? (fun e' => decide ((e'.q : Int) = (e.q : Int))) = some e := by
      exact find_q hsi.rr.nd he
    simp only [fE, this]

  refine lc_ints (f := fE) (b := fun _ => true) (by simp) (small24 ?_) ?_ ?_
  · rw [(isort_perm _).length_eq, List.length_map]
    have := hsi.rr.few
    omega
  · intro x hx
    obtain ⟨e, he, rfl⟩ := hmem x hx
    rw [hfE e he]
    have g1 : (s1 ++ [Ob.lst ((isort (E.map fun e => (e.q : Int))).map D.int)])[dl]? = some (.dct (kvD E)) := by rw [List.getElem?_append_left (len_of hdl)]; exact hdl
    have g2 : (s1 ++ [Ob.lst ((isort (E.map fun e => (e.q : Int))).map D.int)])[e.l]? = some (.lst (e.L.map .int)) := by rw [List.getElem?_append_left (len_of (hst.en e he).1)]; exact (hst.en e he).1
    simp [wipeD, gIx_dct g1, keyD, dGet_kv hsi.rr.nd he]
    rw [gS_of (.loc g2)]
    simp
  · rw [List.filter_eq_self.mpr fun _ _ => rfl]
    refine ⟨p1.push, (prE E).map (·.2), ?_, prE E, rfl, hsi.ld⟩
    rw [← sortK_keys (fun e : En => (e.q : Int)) E]
    rw [List.map_map, List.map_map, List.map_map]
    exact List.map_congr_left fun e he => hfE e (mem_srtE.mp he)
theorem ladder_spec (A : Str → Addr) {s : Sto} {p : Int} {w : Nat} {T : List (List Int)} (hp : Pr p) (hp2 : p ≤ 251) (hw : 1 ≤ w ∧ w ≤ 10) (hl : T.length ≤ 40) (hT : ∀ r ∈ T, IsSm p w r) :
    RW (l_ladder A [.int p, sumsD T] s) fun v s' => Pre s s' ∧ ∃ rows, v = sumsD rows ∧ IsLad p w T rows := by
  unfold l_ladder
  simp [check_sums_ok A hp hp2 hw hl hT]
  exact ladder_of_spec A hp hp2 (by omega) hl fun r hr => (hT r hr).1
section
variable {p : Int} {w : Nat} {T T' rows rows' : List (List Int)}
theorem IsLad.uniq (hp : 2 ≤ p) (h : IsLad p w T rows) (h' : IsLad p w T' rows') (hs : ∀ v ∈ upto (famL T) T.length, Sp p w (upto (famL T') T'.length) v) (hs' : ∀ v ∈ upto (famL T') T'.length, Sp p w (upto (famL T) T.length) v) : rows = rows' := by
  obtain ⟨R, rfl, a⟩ := h
  obtain ⟨R', rfl, b⟩ := h'
  rw [a.uniq hp b hs hs']
theorem IsLad.same (hp : 2 ≤ p) (h : IsLad p w T rows) (h' : IsLad p w T rows') : rows = rows' := h.uniq hp h' (fun _ hv => Sp.mem hv) fun _ hv => Sp.mem hv
theorem LD.one' {Ss : List Vec} {R : List (Nat × List Int)} (hp : 2 ≤ p) (h : LD p w Ss R) {e : Nat × List Int} (he : e ∈ R) : e.2.getD e.1 0 = 1 :=
  same_mod ((h.row e he).at (h.lt e he)) (by omega) (h.one e he)
theorem LD.low' {Ss : List Vec} {R : List (Nat × List Int)} (h : LD p w Ss R) {e : Nat × List Int} (he : e ∈ R) {j : Nat} (hj : j < e.1) : e.2.getD j 0 = 0 := by
  have := h.lt e he
  have hb := (h.row e he).at (show j < w by omega)
  exact dvd_small (h.low e he j hj) hb.1 hb.2
theorem LD.sm {Ss : List Vec} {R : List (Nat × List Int)} (hp : 2 ≤ p) (h : LD p w Ss R) {e : Nat × List Int} (he : e ∈ R) : IsSm p w e.2 := by
  refine ⟨h.row e he, e.2.getD e.1 0, ?_, by rw [h.one' hp he]; decide⟩
  have hl : e.1 < e.2.length := by rw [(h.row e he).len]; exact h.lt e he
  rw [List.getD_eq_getElem?_getD, List.getElem?_eq_getElem hl]
  exact List.getElem_mem hl
theorem IsLad.sms (hp : 2 ≤ p) (h : IsLad p w T rows) : ∀ r ∈ rows, IsSm p w r := by
  obtain ⟨R, rfl, a⟩ := h
  intro r hr
  obtain ⟨e, he, rfl⟩ := List.mem_map.mp hr
  exact a.sm hp he
theorem IsLad.few (h : IsLad p w T rows) : rows.length ≤ w := by
  obtain ⟨R, rfl, a⟩ := h
  have := pigeon w (R.map (·.1)) (List.nodup_iff_pairwise_ne.mpr (List.Pairwise.imp (S := fun a b => a ≠ b) (fun h => Nat.ne_of_lt h) (List.pairwise_map.mpr a.asc : (R.map (·.1)).Pairwise (· < ·)))) fun x hx => by
    obtain ⟨e, he, rfl⟩ := List.mem_map.mp hx
    exact a.lt e he
  simpa using this
/-- a ladder is its own -/
theorem IsLad.self (h : IsLad p w T rows) : IsLad p w rows rows := by
  obtain ⟨R, rfl, a⟩ := h
  refine ⟨R, rfl, a.row, a.asc, a.lt, a.one, a.low, a.off, fun e he => Sp.mem (mem_up (List.mem_map.mpr ⟨e, he, rfl⟩)), fun v hv => ?_⟩
  obtain ⟨r, hr, rfl⟩ := up_mem hv
  obtain ⟨e, he, rfl⟩ := List.mem_map.mp hr
  exact Sp.mem (List.mem_map.mpr ⟨e, he, rfl⟩)
theorem IsLad.span (h : IsLad p w T rows) : (∀ v ∈ upto (famL T) T.length, Sp p w (upto (famL rows) rows.length) v) ∧ ∀ v ∈ upto (famL rows) rows.length, Sp p w (upto (famL T) T.length) v := by
  obtain ⟨R, rfl, a⟩ := h
  refine ⟨fun v hv => (a.down v hv).mono fun L hL => ?_, fun v hv => ?_⟩
  · obtain ⟨e, he, rfl⟩ := List.mem_map.mp hL
    exact mem_up (List.mem_map.mpr ⟨e, he, rfl⟩)
  · obtain ⟨r, hr, rfl⟩ := up_mem hv
    obtain ⟨e, he, rfl⟩ := List.mem_map.mp hr
    exact a.up e he
theorem IsLad.nil : IsLad p w [] [] := ⟨[], rfl, by simp, .nil, by simp, by simp, by simp, by simp, by simp, by simp⟩
theorem IsLad.nil_iff (hp : 2 ≤ p) (hT : ∀ r ∈ T, IsSm p w r) (h : IsLad p w T rows) : rows = [] ↔ T = [] := by
  constructor
  · rintro rfl
    cases T with
    | nil => rfl
    | cons r T =>
      have hs := h.span.1 _ (mem_up (List.mem_cons_self (a := r) (l := T)))
      exact absurd hs (sp_zero_row (hT r List.mem_cons_self))
  · rintro rfl
    exact h.same hp IsLad.nil
end
end DL
end
/-! ### Q3 -/
section
set_option linter.all false
set_option maxRecDepth 100000
set_option maxHeartbeats 4000000
/-! Q3: the law's own ladder: clearing; no program. -/
namespace DL
open LA
structure LC (p : Int) (w : Nat) (V0 : List Vec) (Qs : List Nat) (G : List Gr) (h o : Nat) : Prop where
  len : G.length = Qs.length
  asc : Qs.Pairwise (· < ·)
  ltw : ∀ q ∈ Qs, q < w
  row : ∀ e ∈ G, IsRow p w e.row
  one : ∀ (i : Nat) (e : Gr), G[i]? = some e → p ∣ e.row.getD (Qs.getD i 0) 0 - 1
  low : ∀ (i : Nat) (e : Gr), G[i]? = some e → ∀ j, j < Qs.getD i 0 → p ∣ e.row.getD j 0
  off : ∀ (i : Nat) (e : Gr), G[i]? = some e → ∀ k, k < Qs.length → k ≠ i → (k < h ∨ (k = h ∧ i < o)) → p ∣ e.row.getD (Qs.getD k 0) 0
  up : ∀ e ∈ G, Sp p w V0 (vecL e.row)
  down : ∀ v ∈ V0, Sp p w (G.map fun e => vecL e.row) v
section
variable {p : Int} {w h o : Nat} {V0 : List Vec} {Qs : List Nat} {G : List Gr}
theorem getD_asc (ha : Qs.Pairwise (· < ·)) {i k : Nat} (hk : k < Qs.length) (hi : i < k) : Qs.getD i 0 < Qs.getD k 0 := by
  have := List.pairwise_iff_getElem.mp ha i k (by omega) hk hi
  simpa [List.getD_eq_getElem?_getD, hk, (show i < Qs.length by omega)] using this
theorem getD_mem {i : Nat} (hi : i < Qs.length) : Qs.getD i 0 ∈ Qs := by
  rw [List.getD_eq_getElem?_getD, List.getElem?_eq_getElem hi]
  exact List.getElem_mem hi
theorem LC.keep (l : LC p w V0 Qs G h o) (hs : ∀ e : Gr, G[o]? = some e → o ≠ h → h < Qs.length → p ∣ e.row.getD (Qs.getD h 0) 0) : LC p w V0 Qs G h (o + 1) := by
  refine ⟨l.len, l.asc, l.ltw, l.row, l.one, l.low, fun i e hi k hk hne hh => ?_, l.up, l.down⟩
  rcases hh with hh | ⟨rfl, hh⟩
  · exact l.off i e hi k hk hne (.inl hh)
  · rcases Nat.lt_or_ge i o with h1 | h1
    · exact l.off i e hi k hk hne (.inr ⟨rfl, h1⟩)
    · have : i = o := by omega
      subst this
      exact hs e hi (Ne.symm hne) hk
theorem LC.next (l : LC p w V0 Qs G h G.length) : LC p w V0 Qs G (h + 1) 0 := by
  refine ⟨l.len, l.asc, l.ltw, l.row, l.one, l.low, fun i e hi k hk hne hh => ?_, l.up, l.down⟩
  have hil := (List.getElem?_eq_some_iff.mp hi).1
  rcases hh with hh | ⟨_, hh⟩
  · rcases Nat.lt_or_ge k h with h1 | h1
    · exact l.off i e hi k hk hne (.inl h1)
    · exact l.off i e hi k hk hne (.inr ⟨by omega, hil⟩)
  · omega
theorem LC.clear (l : LC p w V0 Qs G h o) {eo eh e' : Gr} (ho : G[o]? = some eo) (hh : G[h]? = some eh) (hne : o ≠ h) (hc : ¬ p ∣ eo.row.getD (Qs.getD h 0) 0) (hr : IsRow p w e'.row)
    (hx : ∀ j, j < w → p ∣ e'.row.getD j 0 - (eo.row.getD j 0 - eo.row.getD (Qs.getD h 0) 0 * eh.row.getD j 0)) : LC p w V0 Qs (G.set o e') h (o + 1) := by
  have hol := (List.getElem?_eq_some_iff.mp ho).1
  have hhl := (List.getElem?_eq_some_iff.mp hh).1
  have hlen := l.len
  have hoh : o < h := by
    rcases Nat.lt_or_ge o h with z | z
    · exact z
    · exact absurd (l.low o eo ho _ (getD_asc l.asc (by omega) (by omega))) hc
  have hqo := getD_asc l.asc (show h < Qs.length by omega) hoh
  have hqh : Qs.getD h 0 < w := l.ltw _ (getD_mem (by omega))
  have at_ : ∀ (i : Nat) (e : Gr), (G.set o e')[i]? = some e → (i = o ∧ e = e') ∨ (i ≠ o ∧ G[i]? = some e) := fun i e hi => by
    by_cases z : i = o
    · subst z
      rw [List.getElem?_set_self hol] at hi
      cases hi
      exact .inl ⟨rfl, rfl⟩
    · rw [List.getElem?_set_ne (Ne.symm z)] at hi
      exact .inr ⟨z, hi⟩
  generalize hcc : eo.row.getD (Qs.getD h 0) 0 = c at *
  refine ⟨by rw [List.length_set]; exact hlen, l.asc, l.ltw, fun e he => ?_, fun i e hi => ?_, fun i e hi j hj => ?_, fun i e hi k hk hne2 hh2 => ?_, fun e he => ?_, fun v hv => ?_⟩
  · rcases List.mem_or_eq_of_mem_set he with z | z
    · exact l.row e z
    · rw [z]; exact hr
  · rcases at_ i e hi with ⟨rfl, rfl⟩ | ⟨_, hi⟩
    · have a := hx (Qs.getD i 0) (by omega)
      have b := l.one i eo ho
      have d := l.low h eh hh _ hqo
      exact dvd3 1 1 (-c) a b d (by grind)
    · exact l.one i e hi
  · rcases at_ i e hi with ⟨rfl, rfl⟩ | ⟨_, hi⟩
    · have a := hx j (by omega)
      have b := l.low i eo ho j hj
      have d := l.low h eh hh j (by omega)
      exact dvd3 1 1 (-c) a b d (by grind)
    · exact l.low i e hi j hj
  · have hkw := l.ltw _ (getD_mem hk)
    rcases at_ i e hi with ⟨rfl, rfl⟩ | ⟨z, hi⟩
    · have a := hx (Qs.getD k 0) hkw
      rcases hh2 with hh2 | ⟨rfl, _⟩
      · have b := l.off i eo ho k hk hne2 (.inl hh2)
        have d := l.off h eh hh k hk (by omega) (.inl hh2)
        exact dvd3 1 1 (-c) a b d (by grind)
      · have d := l.one k eh hh
        rw [hcc] at a
        exact dvd2 1 (-c) a d (by grind)
    · exact l.off i e hi k hk hne2 (by omega)
  · rcases List.mem_or_eq_of_mem_set he with z | z
    · exact l.up e z
    · rw [z]
      have a := l.up eo (List.mem_of_getElem? ho)
      have b := l.up eh (List.mem_of_getElem? hh)
      exact (a.add (b.smul (-c))).congr fun j hj => dvd1 (-1) (hx j hj) (by simp only [vecL]; grind)
  · refine Sp.trans (fun L hL => ?_) (l.down v hv)
    obtain ⟨e, he, rfl⟩ := List.mem_map.mp hL
    obtain ⟨i, hi⟩ := List.mem_iff_getElem?.mp he
    have inn : ∀ {i : Nat} {e : Gr}, G[i]? = some e → i ≠ o → Sp p w ((G.set o e').map fun e => vecL e.row) (vecL e.row) := fun {i e} hi z =>
      Sp.mem (List.mem_map.mpr ⟨e, List.mem_of_getElem? (by rw [List.getElem?_set_ne (Ne.symm z)]; exact hi), rfl⟩)
    by_cases z : i = o
    · subst z
      rw [ho] at hi
      cases hi
      have a : Sp p w ((G.set i e').map fun e => vecL e.row) (vecL e'.row) := Sp.mem (List.mem_map.mpr ⟨e', List.mem_of_getElem? (List.getElem?_set_self hol), rfl⟩)
      exact (a.add ((inn hh (Ne.symm hne)).smul c)).congr fun j hj => dvd1 1 (hx j hj) (by simp only [vecL]; grind)
    · exact inn hi z
abbrev zipG (Qs : List Nat) (G : List Gr) : List (Nat × List Int) := List.zipWith (fun q e => (q, e.row)) Qs G
theorem zipG_snd : ∀ {Qs : List Nat} {G : List Gr}, G.length = Qs.length → (zipG Qs G).map (·.2) = G.map (·.row)
  | [], [], _ => rfl
  | [], _ :: _, h => by simp at h
  | _ :: _, [], h => by simp at h
  | q :: Qs, e :: G, h => by simp [zipG, zipG_snd (Qs := Qs) (G := G) (by simpa using h)]
theorem zipG_mem {x : Nat × List Int} (hl : G.length = Qs.length) (h : x ∈ zipG Qs G) : ∃ i e, G[i]? = some e ∧ i < Qs.length ∧ x = (Qs.getD i 0, e.row) := by
  obtain ⟨i, hi, rfl⟩ := List.mem_iff_getElem.mp h
  have h1 : i < Qs.length := by simp at hi; omega
  have h2 : i < G.length := by omega
  exact ⟨i, G[i], List.getElem?_eq_getElem h2, h1, by simp [List.getD_eq_getElem?_getD, h1]⟩
theorem LC.ld (l : LC p w V0 Qs G Qs.length 0) : LD p w V0 (zipG Qs G) := by
  have hlen := l.len
  refine ⟨fun x hx => ?_, ?_, fun x hx => ?_, fun x hx => ?_, fun x hx => ?_, fun x hx y hy hne => ?_, fun x hx => ?_, fun v hv => ?_⟩
  · obtain ⟨i, e, he, hi, rfl⟩ := zipG_mem hlen hx
    exact l.row e (List.mem_of_getElem? he)
  · rw [List.pairwise_iff_getElem]
    intro i j hi hj hij
    have h1 : j < Qs.length := by simp at hj; omega
    have := List.pairwise_iff_getElem.mp l.asc i j (by omega) h1 hij
    simpa using this
  · obtain ⟨i, e, he, hi, rfl⟩ := zipG_mem hlen hx
    exact l.ltw _ (getD_mem hi)
  · obtain ⟨i, e, he, hi, rfl⟩ := zipG_mem hlen hx
    exact l.one i e he
  · obtain ⟨i, e, he, hi, rfl⟩ := zipG_mem hlen hx
    exact l.low i e he
  · obtain ⟨i, e, he, hi, rfl⟩ := zipG_mem hlen hx
    obtain ⟨k, f, hf, hk, rfl⟩ := zipG_mem hlen hy
    exact l.off k f hf i hi (fun z => hne (by simp only [z])) (.inl hi)
  · obtain ⟨i, e, he, hi, rfl⟩ := zipG_mem hlen hx
    exact l.up e (List.mem_of_getElem? he)
  · refine (l.down v hv).mono fun L hL => ?_
    obtain ⟨e, he, rfl⟩ := List.mem_map.mp hL
    have : e.row ∈ (zipG Qs G).map (·.2) := by rw [zipG_snd hlen]; exact List.mem_map.mpr ⟨e, he, rfl⟩
    obtain ⟨x, hx, h2⟩ := List.mem_map.mp this
    exact List.mem_map.mpr ⟨x, hx, by rw [h2]⟩
/-- from what the law has taken -/
theorem LI.lc {S : Nat → Vec} {n : Nat} {R : List Ls} (l : LI p w S n R) {G : List Gr} (hG : G.map (·.row) = (srtL R).map (·.L)) : LC p w (upto S n) ((srtL R).map (·.q)) G 0 0 := by
  have hlen : G.length = (srtL R).length := by have := congrArg List.length hG; simpa using this
  have at_ : ∀ (i : Nat) (e : Gr), G[i]? = some e → ∃ x, (srtL R)[i]? = some x ∧ x ∈ R ∧ e.row = x.L ∧ ((srtL R).map (·.q)).getD i 0 = x.q := fun i e hi => by
    have h1 : (G.map (·.row))[i]? = some e.row := by rw [List.getElem?_map, hi]; rfl
    rw [hG, List.getElem?_map, Option.map_eq_some_iff] at h1
    obtain ⟨x, h2, h3⟩ := h1
    exact ⟨x, h2, mem_srtL.mp (List.mem_of_getElem? h2), h3.symm, by rw [List.getD_eq_getElem?_getD, List.getElem?_map, h2]; rfl⟩
  refine ⟨by simp [hlen], List.pairwise_map.mpr (srtL_lt l.nd), fun q hq => ?_, fun e he => ?_, fun i e hi => ?_, fun i e hi => ?_, fun i e hi k hk hne hh => ?_, fun e he => ?_, fun v hv => ?_⟩
  · obtain ⟨x, hx, rfl⟩ := List.mem_map.mp hq
    exact l.lt x (mem_srtL.mp hx)
  · obtain ⟨i, hi⟩ := List.mem_iff_getElem?.mp he
    obtain ⟨x, _, hx, e1, _⟩ := at_ i e hi
    rw [e1]; exact l.row x hx
  · obtain ⟨x, _, hx, e1, e2⟩ := at_ i e hi
    rw [e1, e2]; exact l.one x hx
  · obtain ⟨x, _, hx, e1, e2⟩ := at_ i e hi
    rw [e1, e2]; exact l.low x hx
  · omega
  · obtain ⟨i, hi⟩ := List.mem_iff_getElem?.mp he
    obtain ⟨x, _, hx, e1, _⟩ := at_ i e hi
    rw [e1]; exact l.up x hx
  · obtain ⟨i, hi, rfl⟩ := List.mem_map.mp hv
    refine (l.down i (List.mem_range.mp hi)).mono fun L hL => ?_
    obtain ⟨x, hx, rfl⟩ := List.mem_map.mp hL
    have : x.L ∈ G.map (·.row) := by rw [hG]; exact List.mem_map.mpr ⟨x, mem_srtL.mpr hx, rfl⟩
    obtain ⟨e, he, h2⟩ := List.mem_map.mp this
    exact List.mem_map.mpr ⟨e, he, by rw [h2]⟩
end
end DL
end
/-! ### Q4 -/
section
set_option linter.all false
set_option maxRecDepth 100000
set_option maxHeartbeats 4000000
/-! Q4: the law's own ladder: the walk. -/
namespace DL
open PySem PySem.Spec L2
open PyProof.Rows hiding St
open LA
theorem LI.same_q {p : Int} {w n : Nat} {S : Nat → Vec} {R R' : List Ls} (hp : 2 ≤ p) (h : LI p w S n R) (h' : LI p w S n R') : (srtL R).map (·.q) = (srtL R').map (·.q) := by
  have sub : ∀ {R R' : List Ls}, LI p w S n R → LI p w S n R' → ∀ k, k ∈ (srtL R).map (·.q) → k ∈ (srtL R').map (·.q) := fun {R R'} h h' k hk => by
    obtain ⟨e, he, rfl⟩ := List.mem_map.mp hk
    have he := mem_srtL.mp he
    apply Classical.byContradiction
    intro hn
    let R2 : List (Nat × List Int) := (srtL R').map fun e => (e.q, e.L)
    have ht : Tri p w (rowsP R2) := by
      have : rowsP R2 = rowsL (srtL R') := by simp [R2]
      rw [this]
      exact h'.tri
    have hv : Sp p w (vsP R2) (vecL e.L) := by
      refine Sp.trans (fun L hL => ?_) (h.up e he)
      obtain ⟨i, hi, rfl⟩ := List.mem_map.mp hL
      refine (h'.down i (List.mem_range.mp hi)).mono fun L hL => ?_
      obtain ⟨x, hx, rfl⟩ := List.mem_map.mp hL
      exact List.mem_map.mpr ⟨(x.q, x.L), List.mem_map.mpr ⟨x, mem_srtL.mpr hx, rfl⟩, rfl⟩
    have := piv_zero ht (fun x hx => by
      obtain ⟨y, hy, rfl⟩ := List.mem_map.mp hx
      exact h'.low y (mem_srtL.mp hy)) (h.lt e he) hv (h.low e he) fun x hx hq => by
        obtain ⟨y, hy, rfl⟩ := List.mem_map.mp hx
        exact hn (List.mem_map.mpr ⟨y, hy, hq⟩)
    have h1 := h.one e he
    have : p ∣ 1 := dvd2 1 (-1) this h1 (by simp only [vecL]; grind)
    have := Int.le_of_dvd (by omega) this
    omega
  exact strict_extN (List.pairwise_map.mpr (srtL_lt h.nd)) (List.pairwise_map.mpr (srtL_lt h'.nd)) fun k => ⟨sub h h' k, sub h' h k⟩
theorem srtL_len (R : List Ls) : (srtL R).length = R.length := (sortK_perm (fun e : Ls => (e.q : Int)) R).length_eq
abbrev locsG (G : List Gr) : List D := G.map fun e => D.loc e.l
/-- copies of the first i rows -/
def CpIn (s : Sto) (nn : Nat) (R : List Ls) (i : Nat) (s1 : Sto) (acc : List D) : Prop :=
  ∃ G : List Gr, acc = locsG G ∧ Pre s s1 ∧ s1[nn]? = some (.lst (R.map lsD)) ∧ G.length = i ∧ G.map (·.row) = (R.take i).map (·.L) ∧ (∀ e ∈ G, s1[e.l]? = some (.lst (e.row.map .int))) ∧ ∀ e ∈ R, s1[e.l]? = some (.lst (e.L.map .int))
def L1In (s : Sto) (p : Int) (w : Nat) (T : List (List Int)) (r : Env) (s1 : Sto) : Prop :=
  ∃ (n : Nat) (R : List Ls) (G : List Gr), r = [some (.int p), some (sumsD T), some (.loc n), none, none, none, none, none] ∧ Pre s s1 ∧ s.length ≤ n ∧ RowsAt s1 n G ∧ LI p w (famL T) T.length R ∧ G.map (·.row) = (srtL R).map (·.L)
def L2In (s : Sto) (p : Int) (w : Nat) (T : List (List Int)) (n m : Nat) (Qs : List Nat) (h o : Nat) (v4 v5 : Option D) (r : Env) (s1 : Sto) : Prop :=
  ∃ (G : List Gr), r = [some (.int p), some (sumsD T), some (.loc n), some (.loc m), v4, v5, none, none] ∧ Pre s s1 ∧ RowsAt s1 n G ∧ s1[m]? = some (.lst (natsD Qs)) ∧ m ≠ n ∧ LC p w (upto (famL T) T.length) Qs G h o
theorem lladder_spec (A : Str → Addr) {s : Sto} {p : Int} {w : Nat} {T : List (List Int)} (hp : Pr p) (hp2 : p ≤ 1000) (hw : w ≤ 50) (hl : T.length < 90) (hT : ∀ r ∈ T, IsRow p w r) :
    RW (l_law_ladder A [.int p, sumsD T] s) fun v s' => Pre s s' ∧ ∃ rows, v = sumsD rows ∧ IsLad p w T rows := by
  have hp0 := hp.two
  unfold l_law_ladder
  rw [RW_def]
  refine ⟨rfl, ?_⟩
  rw [SW_seq]
  refine SW.midr (L1In s p w T) ?_ ?_
  · simp
    refine (ltaken_spec A (T := T) hp hp2 hw hl hT).imp fun v s1 ⟨p1, R, e, hR⟩ => ?_
    subst e
    simp
    refine ⟨_, gSrt_ls hR.hk hR.li.nd, ?_⟩
    have hen : ∀ e ∈ srtL R, (s1 ++ [Ob.lst ((srtL R).map lsD)])[e.l]? = some (.lst (e.L.map .int)) := fun e he => by
      have := (hR.en e (mem_srtL.mp he)).1
      rw [List.getElem?_append_left (len_of this)]
      exact this
    refine RW_lcGo (CpIn s s1.length (srtL R)) ⟨[], rfl, p1.push, last_of, rfl, by simp, by simp, hen⟩ ?_ ?_ ?_
    · rintro i s2 acc _ ⟨G, _, _, g, _⟩
      simpa using g
    · rintro i d s2 acc hd ⟨G, rfl, p2, g, hl2, hrow, hG, hen2⟩
      rw [List.getElem?_map, Option.map_eq_some_iff] at hd
      obtain ⟨e, he, rfl⟩ := hd
      have hel := hen2 e (List.mem_of_getElem? he)
      have hil := (List.getElem?_eq_some_iff.mp he).1
      simp [wipeD]
      refine ⟨e.L.map .int, by simp [gList, hel], small24' ?_, G ++ [⟨s2.length, e.L⟩], by simp, p2.push, ?_, by simp [hl2], ?_, ?_, ?_⟩
      · have := hR.li.few
        have h3 := srtL_len R
        omega
      · rw [List.getElem?_append_left (len_of g)]; exact g
      · rw [List.map_append, hrow, List.take_add_one, he]
        simp
      · intro x hx
        rcases List.mem_append.mp hx with hx | hx
        · rw [List.getElem?_append_left (len_of (hG x hx))]; exact hG x hx
        · rw [List.mem_singleton.mp hx]; exact last_of
      · intro x hx
        rw [List.getElem?_append_left (len_of (hen2 x hx))]
        exact hen2 x hx
    · rintro s2 acc ⟨G, rfl, p2, g, hl2, hrow, hG, _⟩
      refine ⟨s2.length, R, G, by simp, p2.push, p2.1, ⟨last_of, fun e he => ⟨?_, ?_⟩⟩, hR.li, ?_⟩
      · rw [List.getElem?_append_left (len_of (hG e he))]; exact hG e he
      · have := len_of (hG e he); omega
      · rw [hrow, List.take_of_length_le (by simp)]
  rintro r1 s1 ⟨n, R, G, rfl, p1, hn, hrows, hli, hG⟩
  rw [SW_seq]
  refine SW.midr (fun r s2 => ∃ m, L2In s p w T n m ((srtL R).map (·.q)) 0 0 none none r s2) ?_ ?_
  · simp
    refine (ltaken_spec A (T := T) hp hp2 hw hl hT).imp fun v s2 ⟨p2, R2, e, hR2⟩ => ?_
    subst e
    simp
    refine ⟨_, gSrt_ls hR2.hk hR2.li.nd, ?_⟩
    refine lc_rw (f := fun d => match d with | .tup [a, _] => a | _ => .non) (b := fun _ => true) (by simp) (small24 ?_) ?_ ?_
    · have := hR2.li.few
      have h3 := srtL_len R2
      rw [List.length_map]
      omega
    · intro d hd
      obtain ⟨e, he, rfl⟩ := List.mem_map.mp hd
      simp [wipeD]
    · rw [List.filter_eq_self.mpr fun _ _ => rfl]
      have hnl := len_of (hrows.pre p2).1
      refine ⟨_, G, by simp; rfl, (p1.trans p2).push.push, (hrows.pre p2).pre (Pre.refl.push.push), ?_, by omega, hli.lc hG⟩
      rw [List.getElem?_append_right (by simp), hli.same_q hp0 hR2.li]
      simp [natsD]
  rintro r2 s2 ⟨m, hi2⟩
  rw [SW_seq]
  refine SW.midr (fun r s3 => ∃ v4 v5, L2In s p w T n m ((srtL R).map (·.q)) ((srtL R).map (·.q)).length 0 v4 v5 r s3) ?_ ?_
  · obtain ⟨G2, rfl, p2, hr2, hm2, hmn, hlc⟩ := hi2
    have hlen2 := hlc.len
    simp
    rw [gLen_lst hr2.1, RW_of_some]
    have hfew := hli.few
    have hsl := srtL_len R
    rw [List.length_map] at hlen2
    refine ⟨_, rfl, by simp; try omega, by simp; try omega, ?_⟩
    have hto : ((G2.map fun e => D.loc e.l).length : Int).toNat = G2.length := by simp
    rw [hto]
    refine SW_forGo (fun h r s3 => ∃ v4 v5, L2In s p w T n m ((srtL R).map (·.q)) h 0 v4 v5 r s3) ⟨_, _, G2, rfl, p2, hr2, hm2, hmn, hlc⟩ (by intros; rfl) ?_ ?_
    · rintro h dd r4 s4 hdd ⟨v4, v5, G4, rfl, p4, hr4, hm4, _, hlc4⟩
      obtain ⟨hh, rfl⟩ := range_get hdd
      have hlen4 := hlc4.len
      rw [List.length_map] at hlen4
      simp
      rw [gLen_lst hr4.1, RW_of_some]
      refine ⟨_, rfl, by simp; try omega, by simp; try omega, ?_⟩
      have hto4 : ((G4.map fun e => D.loc e.l).length : Int).toNat = G4.length := by simp
      rw [hto4]
      refine SW_forGo (fun o r s3 => ∃ v5, L2In s p w T n m ((srtL R).map (·.q)) h o (some (.int (h : Int))) v5 r s3) ⟨_, G4, rfl, p4, hr4, hm4, hmn, hlc4⟩ (by intros; rfl) ?_ ?_
      · rintro o de r5 s5 hde ⟨v5, G5, rfl, p5, hr5, hm5, _, hlc5⟩
        obtain ⟨ho, rfl⟩ := range_get hde
        have hlen5 := hlc5.len
        rw [List.length_map] at hlen5
        simp
        by_cases hoh : o = h
        · subst hoh
          simp
          exact ⟨_, G5, rfl, p5, hr5, hm5, hmn, hlc5.keep fun e _ hne => absurd rfl hne⟩
        have hoh2 : ¬ ((o : Int) = (h : Int)) := by omega
        have hok : o < G5.length := by omega
        have hhk : h < G5.length := by omega
        have eo : G5[o]? = some G5[o] := List.getElem?_eq_getElem hok
        have eh : G5[h]? = some G5[h] := List.getElem?_eq_getElem hhk
        obtain ⟨ro, hro⟩ : ∃ x, G5[o] = x := ⟨_, rfl⟩
        obtain ⟨rh, hrh⟩ : ∃ x, G5[h] = x := ⟨_, rfl⟩
        rw [hro] at eo
        rw [hrh] at eh
        have mo := List.mem_of_getElem? eo
        have mh := List.mem_of_getElem? eh
        have hqh : h < ((srtL R).map (·.q)).length := by simp; omega
        have hqw := hlc5.ltw _ (getD_mem hqh)
        generalize hQ : (srtL R).map (·.q) = Qs at *
        have gq : gIx (.loc m) (.int (h : Int)) s5 = some (.int ((Qs.getD h 0 : Nat) : Int), s5) := by
          rw [gIx_lst hm5, atI_in (a := .int ((Qs.getD h 0 : Nat) : Int)) (by omega)]
          · rfl
          · simp [natsD, List.getElem?_map, List.getD_eq_getElem?_getD, List.getElem?_eq_getElem hqh]
        obtain ⟨q, hq⟩ : ∃ q, Qs.getD h 0 = q := ⟨_, rfl⟩
        rw [hq] at gq hqw
        have gx : gIx (.loc ro.l) (.int (q : Int)) s5 = some (.int (ro.row.getD q 0), s5) := row_ix (hr5.2 ro mo).1 (hlc5.row ro mo).len hqw
        obtain ⟨c, hc⟩ : ∃ c, ro.row.getD q 0 = c := ⟨_, rfl⟩
        have hcb := (hlc5.row ro mo).at hqw
        rw [hc] at gx hcb
        simp [hoh2, hr5.ix eo, hr5.ix eh, gq, gx]
        by_cases hc0 : c = 0
        · refine .inl ⟨hc0, _, G5, rfl, p5, hr5, hm5, hmn, hlc5.keep fun e he _ _ => ?_⟩
          rw [eo] at he
          cases he
          rw [hq, hc, hc0]
          exact Int.dvd_zero p
        refine .inr ⟨hc0, ?_⟩
        rw [ltimes_spec A (by omega) (.loc (hr5.2 ro mo).1) (.loc (hr5.2 rh mh).1) (by rw [(hlc5.row ro mo).len]; omega) ((hlc5.row rh mh).small' hp2)]
        have q6 : Pre s5 (s5 ++ [Ob.lst ((axpy p ro.row (p - c) rh.row).map D.int)]) := Pre.refl.push
        have g6 : (s5 ++ [Ob.lst ((axpy p ro.row (p - c) rh.row).map D.int)])[s5.length]? = some (.lst ((axpy p ro.row (p - c) rh.row).map D.int)) := last_of
        have hl6 := len_of hr5.1
        generalize (s5 ++ [Ob.lst ((axpy p ro.row (p - c) rh.row).map D.int)]) = s6 at *
        have hr6 := hr5.pre q6
        refine ⟨_, hr6.put hok, _, G5.set o ⟨s5.length, axpy p ro.row (p - c) rh.row⟩, rfl, (p5.trans q6).set hn, hr6.set (e := ⟨s5.length, axpy p ro.row (p - c) rh.row⟩) g6 (by show s5.length ≠ n; omega), by rw [set_other (Ne.symm hmn)]; exact q6.get hm5, hmn, ?_⟩
        refine hlc5.clear eo eh hoh ?_ ((hlc5.row ro mo).axpy (by omega) (hlc5.row rh mh)) fun j hj => ?_
        · rw [hq, hc]
          exact fun d => hc0 (dvd_small d hcb.1 hcb.2)
        · have := axpy_at (t := p - c) (hlc5.row ro mo) (hlc5.row rh mh) hj
          rw [hq, hc]
          exact dvd2 1 (rh.row.getD j 0) this (Int.dvd_refl p) (by grind)
      · rintro r5 s5 ⟨v5, G5, rfl, p5, hr5, hm5, _, hlc5⟩
        have hlen5 := hlc5.len
        rw [List.length_map] at hlen5
        refine ⟨_, _, G5, rfl, p5, hr5, hm5, hmn, LC.next ?_⟩
        have e1 : G5.length = G4.length := by omega
        rw [e1]
        simpa using hlc5
    · rintro r5 s5 ⟨v4, v5, G5, rfl, p5, hr5, hm5, _, hlc5⟩
      refine ⟨_, _, G5, rfl, p5, hr5, hm5, hmn, ?_⟩
      have e1 : ((List.range G2.length).map fun (i : Nat) => D.int (i : Int)).length = ((srtL R).map (·.q)).length := by simp; omega
      rw [e1] at hlc5
      simpa using hlc5
  rintro r3 s3 ⟨v4, v5, G3, rfl, p3, hrows3, hm3, hmn, hlc⟩
  simp
  refine ⟨_, _, src_lst hrows3.1, ?_⟩
  let f : D → D := fun d => match d with
    | .loc l => match s3[l]? with
      | some (.lst ds) => .tup ds
      | _ => .non
    | _ => .non
  refine lc_rw (f := f) (b := fun _ => true) (by simp [DL.guard, hrows3.1]) (small24 ?_) ?_ ?_
  · have := hlc.len
    have h3 := srtL_len R
    have := hli.few
    simp at *
    omega
  · intro d hd
    obtain ⟨e, he, rfl⟩ := List.mem_map.mp hd
    have h1 := (hrows3.2 e he).1
    simp [wipeD]
    rw [gS_of (.loc h1)]
    simp [f, h1]
  · rw [List.filter_eq_self.mpr fun _ _ => rfl]
    refine ⟨p3, G3.map (·.row), ?_, zipG _ G3, (zipG_snd hlc.len).symm, hlc.ld⟩
    rw [List.map_map, List.map_map]
    refine List.map_congr_left fun e he => ?_
    have h1 := (hrows3.2 e he).1
    simp [f, h1]
end DL
end
/-! ### Q5 -/
section
set_option linter.all false
set_option maxRecDepth 100000
set_option maxHeartbeats 4000000
/-! Q5: things in a drawn order; other sums. -/
namespace DL
open PySem PySem.Spec L2
open PyProof.Rows hiding St
open LA
theorem seqIx {k n : Nat} (h : k < n) : seqIndex? (k : Int) n = some k := by
  unfold seqIndex?
  have h1 : ¬ ((k : Int) < 0) := by omega
  simp [h1, h]
theorem gPop_at {s : Sto} {n k : Nat} {xs : List D} {y : D} (h : s[n]? = some (.lst xs)) (hk : xs[k]? = some y) (hl : xs.length < 2 ^ 62) : gPop (.loc n) [.int (k : Int)] s = some (y, s.set n (.lst (xs.eraseIdx k))) := by
  have hkl := (List.getElem?_eq_some_iff.mp hk).1
  simp only [gPop, h]
  rw [if_pos (by omega), seqIx hkl]
  simp [hk]
theorem erase_map {α β : Type} {f : α → β} : ∀ (l : List α) (k : Nat), (l.map f).eraseIdx k = (l.eraseIdx k).map f
  | [], _ => rfl
  | _ :: _, 0 => rfl
  | x :: l, k + 1 => by simp [erase_map l k]
theorem Ext.set' {s s1 : Sto} (a : Ext s s1) {n : Nat} {ob : Ob} (hn : s.length ≤ n) : Ext s (s1.set n ob) := a.set hn
def TuIn (s : Sto) (T : List (List Int)) (k : Nat) (r : Env) (s1 : Sto) : Prop :=
  ∃ L F : List (List Int), r = [some (.loc 2), some (sumsD T), some (.loc s.length), some (.loc (s.length + 1))] ∧ Ext s s1 ∧ HS s1 ∧ s1[s.length]? = some (.lst (L.map rowD)) ∧ s1[s.length + 1]? = some (.lst (F.map rowD)) ∧ L.length = k ∧ L.length + F.length = T.length ∧
    (∀ x ∈ L, x ∈ T) ∧ ∀ x ∈ F, x ∈ T
theorem turned_spec (A : Str → Addr) {s : Sto} {T : List (List Int)} (h : HS s) (hl : T.length < 1000) :
    RW (l_law_turned A [.loc 2, sumsD T] s) fun v s' => Ext s s' ∧ HS s' ∧ ∃ (n : Nat) (F : List (List Int)), v = .loc n ∧ s.length ≤ n ∧ s'[n]? = some (.lst (F.map rowD)) ∧ F.length = T.length ∧ ∀ x ∈ F, x ∈ T := by
  have hs3 := h.len
  unfold l_law_turned
  rw [RW_def]
  refine ⟨rfl, ?_⟩
  rw [SW_seq]
  refine SW.mid (TuIn s T T.length) ?_ ?_
  · simp
    refine ⟨T.map rowD, rfl, T, [], rfl, Ext.refl.push, h.push, ?_, ?_, rfl, by simp, by simp, by simp⟩
    · rw [List.getElem?_append_right (by omega)]; simp
    · rw [List.getElem?_append_right (by omega)]; simp
  rintro r1 s1 hi
  rw [SW_seq]
  refine SW_wh (TuIn s T) ?_ _ _ _ hi
  rintro k r2 s2 ⟨L, F, rfl, e2, h2, gL_, gF, hk, hlen, mL, mF⟩
  simp
  rw [gLen_lst gL_, RW_of_some]
  simp
  by_cases hk0 : L = []
  · left
    refine ⟨hk0, e2, h2, F, gF, ?_, mF⟩
    rw [hk0] at hlen
    simpa using hlen
  right
  have hkl : 0 < L.length := List.length_pos_iff.mpr hk0
  refine ⟨hkl, by simp [itL, gF], by simp [itL, gL_], ?_⟩
  rw [gLen_lst gL_, RW_of_some, List.length_map]
  refine (draw_spec A (many := L.length) (by omega) h2).imp fun v s3 ⟨c, e, hc0, hc1, h3, f3⟩ => ?_
  subst e
  obtain ⟨m, rfl⟩ := Int.eq_ofNat_of_zero_le hc0
  have hm : m < L.length := by omega
  have e3 := f3.ext
  have g3 := e3.get gL_ (by omega)
  have f3' := e3.get gF (by omega)
  rw [gPop_at (y := rowD L[m]) g3 (by simp [hm]) (by simp; omega), RW_of_some]
  have f4 : (s3.set s.length (.lst ((L.map rowD).eraseIdx m)))[s.length + 1]? = some (.lst (F.map rowD)) := by rw [set_other (by omega)]; exact f3'
  rw [append_lst f4 (small24' (by simp; omega)), RW_of_some]
  have hel : (L.eraseIdx m).length = L.length - 1 := List.length_eraseIdx_of_lt hm
  refine ⟨L.length - 1, by omega, L.eraseIdx m, F ++ [L[m]], rfl, ?_, ?_, ?_, ?_, hel, ?_, fun x hx => mL x (List.mem_of_mem_eraseIdx hx), fun x hx => ?_⟩
  · exact ((e2.trans e3).set (Nat.le_refl _)).set (by omega)
  · exact (h3.set hs3).set (by omega)
  · rw [set_other (by omega), set_same g3, erase_map]
  · rw [set_same f4]; simp
  · simp [hel]; omega
  · rcases List.mem_append.mp hx with hx | hx
    · exact mF x hx
    · rw [List.mem_singleton.mp hx]; exact mL _ (List.getElem_mem hm)
def OtIn (s : Sto) (p : Int) (w m : Nat) (kd : Int) (T : List (List Int)) (n : Nat) (r : Env) (s1 : Sto) : Prop :=
  ∃ (F : List (List Int)) (v6 v7 v8 v9 v10 : Option D), r = [some (.loc 2), some (.int p), some (.int (w : Int)), some (sumsD T), some (.loc n), some (.int kd), v6, v7, v8, v9, v10] ∧ Ext s s1 ∧ HS s1 ∧ s1[n]? = some (.lst (F.map rowD)) ∧ F.length ≤ m ∧ ∀ x ∈ F, IsSm p w x
theorem others_spec (A : Str → Addr) {s : Sto} {p : Int} {w : Nat} {T : List (List Int)} (h : HS s) (hp : Pr p) (hp2 : p ≤ 251) (hw : 1 ≤ w ∧ w ≤ 10) (hl : T.length ≤ 40) (hT : ∀ r ∈ T, IsSm p w r) :
    RW (l_law_others A [.loc 2, .int p, .int (w : Int), sumsD T] s) fun v s' => (∃ O, v = sumsD O ∧ O.length ≤ 40 ∧ ∀ r ∈ O, IsSm p w r) ∧ HS s' ∧ Ext s s' := by
  have hs3 := h.len
  have hp0 := hp.two
  unfold l_law_others
  rw [RW_def]
  refine ⟨rfl, ?_⟩
  rw [SW_seq]
  refine SW.midr (fun r s1 => ∃ n kd, s.length ≤ n ∧ OtIn s p w 40 kd T n r s1) ?_ ?_
  · simp
    refine (turned_spec A (T := T) h (by omega)).imp fun v s1 ⟨e1, h1, n, F, e, hn, g, hF, mF⟩ => ?_
    subst e
    refine (draw_spec A (many := 6) (by omega) h1).imp fun v s2 ⟨kd, e, _, _, h2, f2⟩ => ?_
    subst e
    exact ⟨n, hn, kd, F, _, _, _, _, _, by simp; exact ⟨rfl, rfl, rfl, rfl, rfl⟩, e1.trans f2.ext, h2, f2.ext.get g (by omega), by omega, fun x hx => hT x (mF x hx)⟩
  rintro r1 s1 ⟨n, kd, hn, hi⟩
  rw [SW_seq]
  refine SW.midr (OtIn s p w 40 kd T n) ?_ ?_
  · obtain ⟨F, v6, v7, v8, v9, v10, rfl, e1, h1, g, hF, mF⟩ := hi
    simp
    refine (draw_spec A (many := 6) (by omega) h1).imp fun v s2 ⟨t, e, ht0, ht1, h2, f2⟩ => ?_
    subst e
    simp
    refine ⟨by omega, by omega, ?_⟩
    refine SW_forGo (fun _ => OtIn s p w 40 kd T n) ⟨F, _, _, _, _, _, rfl, e1.trans f2.ext, h2, f2.ext.get g (by omega), hF, mF⟩ (by intros; rfl) ?_ (fun _ _ q => q)
    rintro i dd r3 s3 _ ⟨F, v6, v7, v8, v9, v10, rfl, e3, h3, g3, hF, mF⟩
    simp
    rw [gLen_lst g3, RW_of_some, List.length_map]
    simp
    by_cases hF1 : F.length ≤ 1
    · exact .inl ⟨by omega, F, _, _, _, _, _, rfl, e3, h3, g3, hF, mF⟩
    refine .inr ⟨by omega, ?_⟩
    rw [gLen_lst g3, RW_of_some, List.length_map]
    refine (draw_spec A (many := F.length) (by omega) h3).imp fun v s4 ⟨a, e, ha0, ha1, h4, f4⟩ => ?_
    subst e
    have g4 := f4.ext.get g3 (by omega)
    rw [gLen_lst g4, RW_of_some, List.length_map]
    refine (draw_spec A (many := F.length) (by omega) h4).imp fun v s5 ⟨b, e, hb0, hb1, h5, f5⟩ => ?_
    subst e
    have g5 := f5.ext.get g4 (by omega)
    obtain ⟨x, rfl⟩ := Int.eq_ofNat_of_zero_le ha0
    obtain ⟨y, rfl⟩ := Int.eq_ofNat_of_zero_le hb0
    have hx : x < F.length := by omega
    have hy : y < F.length := by omega
    rw [gIx_lst g5, atI_in (a := rowD F[x]) (by omega) (by simp [hx])]
    simp only [Option.map_some, RW_of_some]
    refine (draw_spec A (many := p - 1) (by omega) h5).imp fun v s6 ⟨c, e, hc0, hc1, h6, f6⟩ => ?_
    subst e
    have g6 := f6.ext.get g5 (by omega)
    rw [show gAdd (D.int 1) (D.int c) s6 = some (D.int (1 + c), s6) from rfl, RW_of_some]
    rw [gIx_lst g6, atI_in (a := rowD F[y]) (by omega) (by simp [hy])]
    simp only [Option.map_some, RW_of_some]
    have rx := mF _ (List.getElem_mem hx)
    have ry := mF _ (List.getElem_mem hy)
    rw [ltimes_spec A (by omega) .tup .tup (by rw [rx.1.len]; omega) (ry.1.small' (by omega)), RW_ok]
    have e6 := ((e3.trans f4.ext).trans f5.ext).trans f6.ext
    have rr : IsRow p w (axpy p F[x] (1 + c) F[y]) := rx.1.axpy (by omega) ry.1
    obtain ⟨row, hrow⟩ : ∃ row, axpy p F[x] (1 + c) F[y] = row := ⟨_, rfl⟩
    rw [hrow] at rr ⊢
    have g7 : (s6 ++ [Ob.lst (row.map D.int)])[n]? = some (.lst (F.map rowD)) := by rw [List.getElem?_append_left (len_of g6)]; exact g6
    have l7 : (s6 ++ [Ob.lst (row.map D.int)])[s6.length]? = some (.lst (row.map D.int)) := last_of
    have e7 : Ext s (s6 ++ [Ob.lst (row.map D.int)]) := e6.push
    have h7 : HS (s6 ++ [Ob.lst (row.map D.int)]) := h6.push
    generalize (s6 ++ [Ob.lst (row.map D.int)]) = s7 at *
    rw [gNe_int, RW_of_some]
    by_cases hxy : (x : Int) = (y : Int)
    · exact .inl ⟨by simp [hxy], F, _, _, _, _, _, rfl, e7, h7, g7, hF, mF⟩
    refine .inr ⟨by simp [hxy], _, _, src_lst l7, ?_⟩
    refine any_ne (by simp [DL.guard, l7]) (by simp [wipeD]) (by rw [rr.len]; omega) ?_
    rw [any_bls]
    refine ⟨_, rfl, ?_⟩
    cases hany : (row.map fun x => !decide (x = 0)).any id with
    | false => exact .inl ⟨rfl, F, _, _, _, _, _, rfl, e7, h7, g7, hF, mF⟩
    | true =>
      refine .inr ⟨rfl, ?_⟩
      rw [gS_of (.loc l7)]
      simp only [Option.map_some, RW_of_some]
      refine ⟨_, gSet_lst (m := x) g7 (by rw [List.length_map]; have := ixN_nn (i := (x : Int)) (m := F.length) (by omega) (by omega); simpa using this), F.set x row, _, _, _, _, _, rfl, e7.set hn, h7.set (by omega), ?_, by simp; omega, fun z hz => ?_⟩
      · rw [set_same g7, List.map_set]
      · rcases List.mem_or_eq_of_mem_set hz with hz | hz
        · exact mF z hz
        · rw [hz]; exact rr.any hany
  rintro r2 s2 hi2
  rw [SW_seq]
  refine SW.midr (OtIn s p w 40 kd T n) ?_ ?_
  · obtain ⟨F, v6, v7, v8, v9, v10, rfl, e2, h2, g, hF, mF⟩ := hi2
    simp
    by_cases hk : kd = 0
    · refine .inr ⟨hk, ?_⟩
      rw [gLen_lst g, RW_of_some, List.length_map]
      simp only [gGt, RW_of_some]
      by_cases hF0 : F.length = 0
      · exact .inl ⟨by rw [decide_eq_false (by omega)], F, _, _, _, _, _, rfl, e2, h2, g, hF, mF⟩
      refine .inr ⟨by rw [decide_eq_true (by omega)], by simp [itL, g], ?_⟩
      rw [gLen_lst g, RW_of_some, List.length_map]
      refine (draw_spec A (many := F.length) (by omega) h2).imp fun v s3 ⟨a, e, ha0, ha1, h3, f3⟩ => ?_
      subst e
      obtain ⟨x, rfl⟩ := Int.eq_ofNat_of_zero_le ha0
      have hx : x < F.length := by omega
      have g3 := f3.ext.get g (by omega)
      rw [gPop_at (y := rowD F[x]) g3 (by simp [hx]) (by simp; omega), RW_of_some]
      have hel : (F.eraseIdx x).length = F.length - 1 := List.length_eraseIdx_of_lt hx
      exact ⟨F.eraseIdx x, _, _, _, _, _, rfl, (e2.trans f3.ext).set hn, h3.set (by omega), by rw [set_same g3, erase_map], by omega, fun z hz => mF z (List.mem_of_mem_eraseIdx hz)⟩
    · exact .inl ⟨hk, F, _, _, _, _, _, rfl, e2, h2, g, hF, mF⟩
  rintro r3 s3 ⟨F, v6, v7, v8, v9, v10, rfl, e3, h3, g, hF, mF⟩
  rw [SW_seq]
  refine SW.midr (fun r s4 => s4 = s3 ∧ r = [some (.loc 2), some (.int p), some (.int (w : Int)), some (sumsD T), some (.loc n), some (.int kd), v6, v7, v8, v9, v10]) ?_ ?_
  · simp
    by_cases hk : kd = 1
    · refine .inr ⟨hk, ?_⟩
      exact (sums_spec A (p := p) (w := w) (most := 4) (by omega) (by omega) (by omega) h3).imp fun v s4 ⟨⟨O, e, hl4, hO⟩, h4, e4⟩ => ⟨⟨O, e, by omega, hO⟩, h4, e3.trans e4⟩
    · exact .inl hk
  rintro r4 s4 ⟨rfl, rfl⟩
  rw [SW_seq]
  refine SW.midr (OtIn s p w 40 kd T n) ?_ ?_
  · simp
    by_cases hk : kd = 2
    · refine .inr ⟨hk, ?_⟩
      rw [gLen_lst g, RW_of_some, List.length_map]
      simp only [gLt, RW_of_some]
      by_cases hF0 : F.length < 40
      · refine .inr ⟨by simp; omega, by simp [itL, g], ?_⟩
        refine (sum_spec A (p := p) (w := w) (by omega) (by omega) h3).imp fun v s5 ⟨⟨x, e, hx⟩, h5, e5⟩ => ?_
        subst e
        have g5 := e5.get g (by omega)
        rw [append_lst g5 (small24' (by simp; omega)), RW_of_some]
        refine ⟨F ++ [x], _, _, _, _, _, rfl, (e3.trans e5).set hn, h5.set (by omega), by rw [set_same g5]; simp, by simp; omega, fun z hz => ?_⟩
        rcases List.mem_append.mp hz with hz | hz
        · exact mF z hz
        · rw [List.mem_singleton.mp hz]; exact hx
      · exact .inl ⟨by rw [decide_eq_false (by omega)], F, _, _, _, _, _, rfl, e3, h3, g, hF, mF⟩
    · exact .inl ⟨hk, F, _, _, _, _, _, rfl, e3, h3, g, hF, mF⟩
  rintro r5 s5 ⟨F, v6, v7, v8, v9, v10, rfl, e5, h5, g, hF, mF⟩
  rw [SW_seq]
  refine SW.midr (fun r s6 => s6 = s5 ∧ r = [some (.loc 2), some (.int p), some (.int (w : Int)), some (sumsD T), some (.loc n), some (.int kd), v6, v7, v8, v9, v10]) ?_ ?_
  · simp
    by_cases hk : kd = 3
    · refine .inr ⟨hk, ?_⟩
      refine (lladder_spec A (p := p) (w := w) (T := T) hp (by omega) (by omega) (by omega) fun r hr => (hT r hr).1).imp fun v s6 ⟨q6, rows, e, hlad⟩ => ?_
      have := hlad.few
      exact ⟨⟨rows, e, by omega, hlad.sms hp0⟩, q6.hs h5, e5.trans q6.ext⟩
    · exact .inl hk
  rintro r6 s6 ⟨rfl, rfl⟩
  simp
  rw [gS_of (.loc g)]
  simp
  exact ⟨⟨F, rfl, hF, mF⟩, h5, e5⟩
end DL
end
/-! ### Q6 -/
section
set_option linter.all false
set_option maxRecDepth 100000
set_option maxHeartbeats 4000000
/-! Q6: alike. -/
namespace DL
open PySem PySem.Spec L2
open PyProof.Rows hiding St
open LA
theorem pysW_rows {g : Nat → Option PyData} : ∀ {S : List (List Int)}, D.pysW g (S.map rowD) = some (S.map fun r => PyData.tuple (r.map PyData.int))
  | [] => rfl
  | r :: S => by
    simp only [List.map_cons, D.pysW, D.pyW, py_ints, pysW_rows (S := S), Option.map_some]
theorem lay_rows : ∀ {S : List (List Int)}, PyData.canLayAll0 (S.map fun r => PyData.tuple (r.map PyData.int)) = true
  | [] => rfl
  | r :: S => by
    simp only [List.map_cons, PyData.canLayAll0, PyData.canLay0, lay_ints, lay_rows (S := S), Bool.and_self]
theorem eqv_rows : ∀ {S S' : List (List Int)}, PyData.eqvAll (S.map fun r => PyData.tuple (r.map PyData.int)) (S'.map fun r => PyData.tuple (r.map PyData.int)) = decide (S = S')
  | [], [] => rfl
  | [], _ :: _ => rfl
  | _ :: _, [] => rfl
  | r :: S, r' :: S' => by
    simp only [List.map_cons, PyData.eqvAll, PyData.eqv, eqv_ints, eqv_rows (S := S) (S' := S')]
    by_cases h : r = r' <;> by_cases h2 : S = S' <;> simp [h, h2]
theorem depth_rows : ∀ {S : List (List Int)}, PyData.depthAll (S.map fun r => PyData.tuple (r.map PyData.int)) ≤ 1
  | [] => by simp [PyData.depthAll]
  | r :: S => by
    simp only [List.map_cons, PyData.depthAll, PyData.depth, depth_ints]
    have := depth_rows (S := S)
    omega
theorem shaped_rows {S : List (List Int)} : SeqAt.shaped (.tuple (S.map fun r => PyData.tuple (r.map PyData.int))) = true := by
  have := depth_rows (S := S)
  simp [SeqAt.shaped, PyData.canLay0, PyData.depth, lay_rows]
  omega
theorem eqB_sums {s : Sto} {S S' : List (List Int)} : eqB s (sumsD S) (sumsD S') = some (decide (S = S')) := by
  have h : ∀ Z : List (List Int), (sumsD Z).py s = some (.tuple (Z.map fun r => PyData.tuple (r.map PyData.int))) := fun Z => by simp [D.py, D.pyW, pysW_rows]
  simp only [eqB, h, shaped_rows, PyData.eqv, eqv_rows]
  simp
theorem gEq_sums {s : Sto} {S S' : List (List Int)} : gEq (sumsD S) (sumsD S') s = some (.bl (decide (S = S')), s) := by simp only [gEq, eqB_sums]; rfl
theorem gNe_sums {s : Sto} {S S' : List (List Int)} : gNe (sumsD S) (sumsD S') s = some (.bl (!decide (S = S')), s) := by simp only [gNe, eqB_sums]; rfl
theorem alike_spec (A : Str → Addr) {s : Sto} {p : Int} {w : Nat} {T O : List (List Int)} (hp : Pr p) (hp2 : p ≤ 251) (hw : 1 ≤ w ∧ w ≤ 10) (hl : T.length ≤ 40) (hT : ∀ r ∈ T, IsSm p w r) (hl2 : O.length ≤ 40) (hO : ∀ r ∈ O, IsSm p w r) :
    RW (l_alike A [.int p, sumsD T, sumsD O] s) fun v s' => Pre s s' ∧ ∃ rT rO, IsLad p w T rT ∧ IsLad p w O rO ∧ v = .bl (decide (rT = rO)) := by
  unfold l_alike
  rw [RW_def]
  refine ⟨rfl, ?_⟩
  rw [SW_seq]
  simp [check_sums_ok A hp hp2 hw hl hT]
  rw [sums_true A hw hl2 hO]
  simp
  have fin : RW (l_ladder_of A [.int p, sumsD T] s) fun d s1 => RW (l_ladder_of A [.int p, sumsD O] s1) fun e s2 => RW (R.of (gEq d e s2)) fun v s' => Pre s s' ∧ ∃ rT, IsLad p w T rT ∧ ∃ rO, IsLad p w O rO ∧ v = .bl (decide (rT = rO)) := by
    refine (ladder_of_spec A hp hp2 (by omega) hl fun r hr => (hT r hr).1).imp fun v s1 ⟨p1, rT, e, hrT⟩ => ?_
    subst e
    refine (ladder_of_spec A hp hp2 (by omega) hl2 fun r hr => (hO r hr).1).imp fun v s2 ⟨p2, rO, e, hrO⟩ => ?_
    subst e
    rw [gEq_sums, RW_of_some]
    exact ⟨p1.trans p2, rT, hrT, rO, hrO, rfl⟩
  refine ⟨rfl, ?_⟩
  cases T with
  | nil => exact .inl ⟨rfl, fin⟩
  | cons r T =>
    refine .inr ⟨by simp, ?_⟩
    cases O with
    | nil => exact .inl ⟨rfl, fin⟩
    | cons q O =>
      refine .inr ⟨by simp, ?_⟩
      simp
      have h1 := (hT r List.mem_cons_self).1.len
      have h2 := (hO q List.mem_cons_self).1.len
      refine ⟨by simp [h1, h2], ?_⟩
      simpa using fin
theorem ismade_spec (A : Str → Addr) {s : Sto} {k w n : Nat} {p : Int} {E : List En} {S : Nat → Vec} {xs : List Int} (hp : Pr p) (hp2 : p ≤ 1000) (hw : w ≤ 50) (hst : StAt A s k p E) (h : SI p w S n E) (hx : IsRow p w xs) :
    RW (l_Steps_is_made A [.loc k, rowD xs] s) fun v s' => Pre s s' ∧ ∃ b, v = .bl b ∧ (b = true ↔ Sp p w (upto S n) (vecL xs)) := by
  have hp0 := hp.two
  obtain ⟨dl, hk1, _⟩ := hst.ob
  have noM : ∀ (a : Str) (b : D), (a, b) ∈ [(("kept_prime" : Str), D.int p), ("kept_rows", .loc dl)] → ¬ ("fallen" : Str) = a := by
    intro a b hab
    simp at hab
    rcases hab with ⟨rfl, _⟩ | ⟨rfl, _⟩ <;> decide +kernel
  unfold l_Steps_is_made
  simp
  refine ⟨_, hk1, noM, ?_⟩
  refine (fallen_spec A (M := []) (xs := xs) (by omega) (by omega) (hst.pre Pre.refl.push) h.rr .tup hx (by rw [last_of]; rfl) (by simp) (by simp)).imp fun v s1 ⟨q1, l, m, ys, M', e, hl, hm, _, g1, g2, hf⟩ => ?_
  subst e
  simp
  refine (place_spec A (xs := ys) (.loc g1) (by rw [hf.1.len]; omega)).imp fun v s2 ⟨q2, e⟩ => ?_
  subst e
  have q : Pre s s2 := (Pre.refl.push.trans q1).trans q2
  have hz := h.left hf
  cases hc : fstNZ 0 ys with
  | none =>
    simp
    refine ⟨q, ?_⟩
    have := fstNZ_none.mp hc
    rw [← hz]
    intro j hj
    have : vecL ys j = 0 := by
      have hjl : j < ys.length := by rw [hf.1.len]; exact hj
      simp only [vecL, List.getD_eq_getElem?_getD, List.getElem?_eq_getElem hjl, Option.getD_some]
      exact this _ (List.getElem_mem hjl)
    rw [this]
    exact Int.dvd_zero p
  | some i =>
    simp
    refine ⟨q, ?_⟩
    rw [← hz]
    intro z
    obtain ⟨_, h1, h2, _⟩ := fstNZ_some hc
    have hi : i < w := by rw [← hf.1.len]; omega
    have hb := hf.1.at hi
    have := dvd_small (z i hi) hb.1 hb.2
    exact h2 (by simpa [vecL] using this)
/-- values by which sums make 0 -/
def NoSol (p : Int) (w : Nat) (T : List (List Int)) (v : D) : Prop :=
  (v = .non ∧ ∀ i, i < T.length → Al p w (famL T) i) ∨ ∃ i c, i < T.length ∧ ¬ Al p w (famL T) i ∧ (∀ j, j < i → Al p w (famL T) j) ∧ Sol p w i (famL T) (famL T i) c ∧
    v = rowD (c.map (fun x => -x % p) ++ [1] ++ List.replicate (T.length - i - 1) 0)
theorem NoSol.uniq {p : Int} {w : Nat} {T : List (List Int)} {v v' : D} (hp : Pr p) (h : NoSol p w T v) (h' : NoSol p w T v') : v = v' := by
  rcases h with ⟨rfl, h⟩ | ⟨i, c, h1, h2, h3, h4, rfl⟩
  · rcases h' with ⟨rfl, _⟩ | ⟨i, c, h1, h2, _⟩
    · rfl
    · exact absurd (h i h1) h2
  · rcases h' with ⟨rfl, h⟩ | ⟨i', c', g1, g2, g3, g4, rfl⟩
    · exact absurd (h i h1) h2
    · have : i = i' := by
        rcases Nat.lt_trichotomy i i' with z | z | z
        · exact absurd (g3 i z) h2
        · exact z
        · exact absurd (h3 i' z) g2
      subst this
      rw [h4.uniq hp g4]
theorem tail_un {s : Sto} {xs : List Int} {k : Nat} {Q : D → Sto → Prop} (hl : xs.length + k ≤ 1000) (q : ∀ s', Pre s s' → Q (rowD (xs ++ [1] ++ List.replicate k 0)) s') :
    1 ≤ sizeLine ∧ RW (R.of (gAdd (.loc s.length) (.loc (s.length + 1)) (s ++ [Ob.lst (xs.map .int), Ob.lst [.int 1]]))) fun d s1 => 1 ≤ sizeLine ∧ RW (R.of (gMul (.loc s1.length) (.int (k : Int)) (s1 ++ [Ob.lst [.int 0]]))) fun e s2 =>
      RW (R.of (gAdd d e s2)) fun d s3 => RW (R.of (gS (fun ds => some (.tup ds)) [d] s3)) Q := by
  refine ⟨one_le_size, ?_⟩
  have g0 : (s ++ [Ob.lst (xs.map .int), Ob.lst [.int 1]])[s.length]? = some (.lst (xs.map .int)) := by rw [List.getElem?_append_right (by omega)]; simp
  have g1 : (s ++ [Ob.lst (xs.map .int), Ob.lst [.int 1]])[s.length + 1]? = some (.lst [.int 1]) := by rw [List.getElem?_append_right (by omega)]; simp
  rw [gAdd_rows g0 g1 (small24 (by simp; omega)), RW_of_some]
  have q2 : Pre s (s ++ [Ob.lst (xs.map .int), Ob.lst [.int 1]] ++ [Ob.lst (xs.map .int ++ [.int 1])]) := Pre.refl.push.push
  have g2 : (s ++ [Ob.lst (xs.map .int), Ob.lst [.int 1]] ++ [Ob.lst (xs.map .int ++ [.int 1])])[(s ++ [Ob.lst (xs.map .int), Ob.lst [.int 1]]).length]? = some (.lst (xs.map .int ++ [.int 1])) := last_of
  generalize hs2 : (s ++ [Ob.lst (xs.map .int), Ob.lst [.int 1]] ++ [Ob.lst (xs.map .int ++ [.int 1])]) = s2 at *
  refine ⟨one_le_size, ?_⟩
  rw [gMul_lst last_of (by omega), RW_of_some]
  have g3 : (s2 ++ [Ob.lst [.int 0]] ++ [Ob.lst (List.replicate k (D.int 0))])[(s ++ [Ob.lst (xs.map .int), Ob.lst [.int 1]]).length]? = some (.lst (xs.map .int ++ [.int 1])) := by
    have h1 := len_of g2
    rw [List.append_assoc, List.getElem?_append_left h1]
    exact g2
  have ht : ((k : Int)).toNat = k := by simp
  rw [ht, gAdd_rows g3 last_of (small24 (by simp; omega)), RW_of_some, gS_of (.loc last_of)]
  simp only [Option.map_some, RW_of_some]
  have := q _ (q2.push.push.push : Pre s (s2 ++ [Ob.lst [.int 0]] ++ [Ob.lst (List.replicate k (D.int 0))] ++ [Ob.lst (xs.map .int ++ [.int 1] ++ List.replicate k (D.int 0))]))
  simpa [rowD, List.map_append, List.map_replicate] using this
end DL
end
/-! ### Q7 -/
section
set_option linter.all false
set_option maxRecDepth 100000
set_option maxHeartbeats 4000000
/-! Q7: nought, and the law's own. -/
namespace DL
open PySem PySem.Spec L2
open PyProof.Rows hiding St
open LA
def NoIn (A : Str → Addr) (s : Sto) (p : Int) (w : Nat) (T : List (List Int)) (k : Nat) (i : Nat) (r : Env) (s1 : Sto) : Prop :=
  ∃ (v3 v4 : Option D) (E : List En), r = [some (.int p), some (sumsD T), some (.loc k), v3, v4, none, none, none] ∧ Pre s s1 ∧ StAt A s1 k p E ∧ SI p w (famL T) i E ∧ ∀ j, j < i → Al p w (famL T) j
theorem nought_spec (A : Str → Addr) {s : Sto} {p : Int} {w : Nat} {T : List (List Int)} (hp : Pr p) (hp2 : p ≤ 251) (hw : 1 ≤ w ∧ w ≤ 10) (hl : T.length ≤ 40) (hT : ∀ r ∈ T, IsSm p w r) :
    RW (l_nought A [.int p, sumsD T] s) fun v s' => Pre s s' ∧ NoSol p w T v := by
  have hp0 := hp.two
  unfold l_nought
  rw [RW_def]
  refine ⟨rfl, ?_⟩
  rw [SW_seq]
  simp [check_sums_ok A hp hp2 hw hl hT]
  have pfk : putD "kept_rows" (D.loc (s.length + 1)) (putD "kept_prime" (D.int p) []) = [(("kept_prime" : Str), D.int p), ("kept_rows", .loc (s.length + 1))] := by
    have h : ¬ ("kept_prime" : Str) = ("kept_rows" : Str) := by decide +kernel
    simp [putD, h]
  simp [l_Steps_init]
  rw [pfk]
  refine ⟨by simp [putD], ?_⟩
  have p0 : Pre s (s ++ [Ob.ins (A "Steps") [(("kept_prime" : Str), D.int p), ("kept_rows", .loc (s.length + 1))], Ob.dct []]) := Pre.refl.push
  refine SW_forGo (NoIn A s p w T s.length) ?_ ?_ ?_ ?_
  · refine ⟨none, none, [], rfl, p0, ⟨⟨s.length + 1, ?_, ?_⟩, by simp⟩, SI.nil, by intros; omega⟩
    · rw [List.getElem?_append_right (by omega)]; simp
    · rw [List.getElem?_append_right (by omega)]; simp
  · intros; simp
  · rintro i dd r1 s1 hdd ⟨v3, v4, E, rfl, hpre, hst, hsi, hal⟩
    obtain ⟨x, hx, rfl⟩ := numbered_at hdd
    rw [List.getElem?_map, Option.map_eq_some_iff] at hx
    obtain ⟨row, hrow, rfl⟩ := hx
    have hrl : i < T.length := (List.getElem?_eq_some_iff.mp hrow).1
    have hrr := (hT row (List.mem_of_getElem? hrow)).1
    obtain ⟨dl, hk, hdl⟩ := hst.ob
    have noF2 : ∀ {dl : Nat} (m : Str), (m == ("kept_prime" : Str)) = false → (m == ("kept_rows" : Str)) = false → ∀ (a : Str) (b : D), (a, b) ∈ [(("kept_prime" : Str), D.int p), ("kept_rows", .loc dl)] → ¬ m = a := by
      intro dl m h1 h2 a b hab e
      simp at hab
      rcases hab with ⟨rfl, _⟩ | ⟨rfl, _⟩
      · rw [e] at h1; simp at h1
      · rw [e] at h2; simp at h2
    have noF := @noF2 dl
    have hSi : ∀ j, j < w → famL T i j = row.getD j 0 := fun j _ => by
      simp [famL, vecL, List.getD_eq_getElem?_getD, hrow]
    have hSv : famL T i = vecL row := by
      simp [famL, List.getD_eq_getElem?_getD, hrow]
    simp only [RW_gTup2, RW_gCons2, RW_gName]
    refine ⟨rfl, ?_⟩
    simp only [List.set, RW_gNil, true_and]
    rw [SW_seq]
    refine SW.midr (fun r s2 => r = [some (.int p), some (sumsD T), some (.loc s.length), some (.int (i : Int)), some (rowD row), none, none, none] ∧ Pre s1 s2 ∧ Al p w (famL T) i) ?_ ?_
    · rw [SW_if]
      simp
      refine ⟨_, hk, noF "is_made" (by decide +kernel) (by decide +kernel), ?_⟩
      refine (ismade_spec A (xs := row) hp (by omega) (by omega) hst hsi hrr).imp fun v s2 ⟨q2, b, e, hb⟩ => ?_
      subst e
      cases b with
      | false =>
        refine .inl ⟨rfl, q2, fun z => ?_⟩
        rw [hSv] at z
        have := hb.mpr z
        cases this
      | true =>
        have hsp := hb.mp rfl
        refine .inr ⟨rfl, ?_⟩
        have hst2 := hst.pre q2
        refine ⟨_, q2.get hk, noF "made_by" (by decide +kernel) (by decide +kernel), ?_⟩
        refine (made_by_spec A (xs := row) hp (by omega) (by omega) hst2 hsi .tup hrr).imp fun v s3 ⟨q3, hv⟩ => ?_
        rcases hv with ⟨rfl, hn⟩ | ⟨m, N, rfl, em, hbd, hal2, heq⟩
        · exact absurd hsp hn
        refine ⟨by omega, ?_⟩
        refine lc_range0 (f := fun j => .int (-(co N (j : Int)) % p)) (b := fun _ => true) ?_ ?_ ?_ ?_
        · simp
        · exact small24 (by omega)
        · intro j hj
          have hkv : kvsOf s3 m = some (mdD N) := by simp [kvsOf, em]
          have hpp : 0 < p := by omega
          simp [wipeD, hkv, keyD, dGet_md, gMod, hpp]
        · rw [List.filter_eq_self.mpr fun _ _ => rfl]
          have hfl : (List.range i).map (fun (j : Nat) => D.int (-(co N (j : Int)) % p)) = (((List.range i).map fun (j : Nat) => co N (j : Int)).map fun x => -x % p).map D.int := by
            rw [List.map_map, List.map_map]; rfl
          rw [hfl]
          have hk2 : ((T.length : Int) - (i : Int) - 1) = ((T.length - i - 1 : Nat) : Int) := by omega
          rw [hk2]
          refine tail_un (by simp; omega) fun s4 q4 => ⟨((hpre.trans q2).trans q3).trans q4, .inr ⟨i, (List.range i).map fun (j : Nat) => co N (j : Int), hrl, fun z => z (by rw [hSv]; exact hsp), hal, ?_, rfl⟩⟩
          have hget : ∀ j, j < i → ((List.range i).map fun (j : Nat) => co N (j : Int)).getD j 0 = co N (j : Int) := fun j hj => by
            simp [List.getD_eq_getElem?_getD, hj]
          refine ⟨by simp, fun x hx => ?_, fun j hj => ?_, fun j hj => ?_⟩
          · obtain ⟨j, _, rfl⟩ := List.mem_map.mp hx
            exact hbd j
          · rw [hget j hj]
            exact hal2 j hj
          · rw [sm_congr (g := fun j2 => co N (j2 : Int) * famL T j2 j) fun j2 hj2 => by rw [hget j2 hj2], hSv]
            exact heq j hj
    rintro r2 s2 ⟨rfl, q2, hali⟩
    simp
    obtain ⟨dl2, hk2, _⟩ := (hst.pre q2).ob
    refine ⟨_, hk2, noF2 "take" (by decide +kernel) (by decide +kernel), ?_⟩
    refine (take_spec A (w := w) (S := famL T) hp (by omega) (by omega) (by omega) (hst.pre q2) hsi .tup hrr hSi).imp fun v s3 ⟨hb, E', hst', hsi', hv⟩ => ?_
    refine ⟨_, _, E', rfl, (hpre.trans q2).pre_but hb, hst', hsi', fun j hj => ?_⟩
    rcases Nat.lt_or_ge j i with z | z
    · exact hal j z
    · have : j = i := by omega
      rw [this]; exact hali
  · rintro r1 s1 ⟨v3, v4, E, rfl, hpre, hst, hsi, hal⟩
    have hl2 : (numbered 0 (T.map rowD)).length = T.length := by rw [numbered_length]; simp
    rw [hl2] at hal
    exact ⟨hpre, .inl ⟨rfl, hal⟩⟩
theorem sol_take {p : Int} {w i : Nat} {T : List (List Int)} {v : Vec} {c : List Int} (hi : i < T.length) (h : Sol p w (T.take i).length (famL (T.take i)) v c) : Sol p w i (famL T) v c := by
  have hl : (T.take i).length = i := by rw [List.length_take]; omega
  have hf : ∀ j, j < i → famL (T.take i) j = famL T j := fun j hj => by
    simp [famL, List.getD_eq_getElem?_getD, List.getElem?_take, hj]
  rw [hl] at h
  have hu : ∀ j, j ≤ i → upto (famL (T.take i)) j = upto (famL T) j := fun j hj => List.map_congr_left fun a ha => hf a (by have := List.mem_range.mp ha; omega)
  refine ⟨h.len, h.bd, fun j hj => ?_, fun j hj => ?_⟩
  · rcases h.al j hj with z | z
    · refine .inl fun y => z ?_
      rw [hu j (by omega), hf j hj]
      exact y
    · exact .inr z
  · rw [sm_congr (g := fun j2 => c.getD j2 0 * famL (T.take i) j2 j) fun j2 hj2 => by rw [hf j2 hj2]]
    exact h.eq j hj
noncomputable def behL (p : Int) (w : Nat) (T : List (List Int)) : List Nat := (List.range T.length).filter fun i => !decide (i ∈ alL p w (famL T) T.length)
def N1In (s : Sto) (p : Int) (w : Nat) (T : List (List Int)) (r : Env) (s1 : Sto) : Prop := r = [some (.int p), some (sumsD T), some (.loc s.length), none, none, none, none] ∧ Pre s s1 ∧ s1[s.length]? = some (.lst (natsD (alL p w (famL T) T.length)))
def N2In (s : Sto) (p : Int) (w : Nat) (T : List (List Int)) (r : Env) (s2 : Sto) : Prop := ∃ n : Nat, r = [some (.int p), some (sumsD T), some (.loc s.length), some (.loc n), none, none, none] ∧ Pre s s2 ∧ s2[n]? = some (.lst (natsD (behL p w T)))
theorem lnought_spec (A : Str → Addr) {s : Sto} {p : Int} {w : Nat} {T : List (List Int)} (hp : Pr p) (hp2 : p ≤ 251) (hw : 1 ≤ w ∧ w ≤ 10) (hl : T.length ≤ 40) (hT : ∀ r ∈ T, IsSm p w r) :
    RW (l_law_nought A [.int p, sumsD T] s) fun v s' => Pre s s' ∧ NoSol p w T v := by
  have hp0 := hp.two
  have hT' : ∀ r ∈ T, IsRow p w r := fun r hr => (hT r hr).1
  unfold l_law_nought
  rw [RW_def]
  refine ⟨rfl, ?_⟩
  rw [SW_seq]
  refine SW.midr (N1In s p w T) ?_ ?_
  · simp
    refine (ltaken_spec A (T := T) hp (by omega) (by omega) (by omega) hT').imp fun v s1 ⟨q1, R, e, hR⟩ => ?_
    subst e
    simp
    exact ⟨rfl, q1, hR.hf⟩
  rintro r1 s1 ⟨hr, q1, g1⟩
  rw [SW_seq]
  refine SW.midr (N2In s p w T) ?_ ?_
  · simp [hr]
    refine ⟨by omega, ?_⟩
    refine lc_range0 (f := fun i => .int (i : Int)) (b := fun i => !decide (i ∈ alL p w (famL T) T.length)) ?_ ?_ ?_ ?_
    · simp
    · exact small24 (by omega)
    · intro i hi
      have hin : inB s1 (.int (i : Int)) (.loc s.length) = some (decide (i ∈ alL p w (famL T) T.length)) := by
        have hit : itS s1 (.loc s.length) = some (natsD (alL p w (famL T) T.length)) := by simp [itS, itL, g1]
        have hfl : (natsD (alL p w (famL T) T.length)).all flatD = true := by
          rw [List.all_map, List.all_eq_true]; intros; rfl
        unfold inB
        rw [hit]
        simp only [flatD, hfl, Bool.and_self, if_true]
        congr 1
        rw [Bool.eq_iff_iff, List.any_map, List.any_eq_true, decide_eq_true_eq]
        constructor
        · rintro ⟨x, hx, h⟩
          simp only [Function.comp, eqF, beq_iff_eq] at h
          have : x = i := by omega
          rw [← this]; exact hx
        · intro h
          exact ⟨i, h, by simp [eqF]⟩
      simp [wipeD, gNotIn, hin]
      exact Classical.em _
    · exact ⟨_, rfl, q1.push, last_of⟩
  rintro r2 s2 ⟨n, rfl, q2, g2⟩
  have mB : ∀ i, i ∈ behL p w T ↔ i < T.length ∧ ¬ Al p w (famL T) i := fun i => by
    unfold behL
    rw [List.mem_filter, List.mem_range]
    constructor
    · rintro ⟨h1, h2⟩
      refine ⟨h1, fun h3 => ?_⟩
      simp [alL_mem.mpr ⟨h1, h3⟩] at h2
    · rintro ⟨h1, h2⟩
      refine ⟨h1, ?_⟩
      have : ¬ i ∈ alL p w (famL T) T.length := fun z => h2 (alL_mem.mp z).2
      simp [this]
  have hsrt : (behL p w T).Pairwise (· < ·) := List.Pairwise.filter _ List.pairwise_lt_range
  generalize behL p w T = B at *
  rw [SW_seq]
  refine SW.midr (fun r s3 => s3 = s2 ∧ r = [some (.int p), some (sumsD T), some (.loc s.length), some (.loc n), none, none, none] ∧ ∃ i, i < T.length ∧ ¬ Al p w (famL T) i ∧ (∀ j, j < i → Al p w (famL T) j) ∧ gIx (.loc n) (.int 0) s2 = some (.int (i : Int), s2)) ?_ ?_
  · rw [SW_if]
    simp
    rw [gLen_lst g2, RW_of_some]
    cases B with
    | nil =>
      simp
      refine ⟨q2, .inl ⟨rfl, fun i hi => ?_⟩⟩
      apply Classical.byContradiction
      intro hn
      have := (mB i).mpr ⟨hi, hn⟩
      cases this
    | cons i L =>
      simp
      obtain ⟨h1, h2⟩ := (mB i).mp List.mem_cons_self
      refine .inl ⟨by omega, i, h1, h2, fun j hj => ?_, ?_⟩
      · apply Classical.byContradiction
        intro hn
        have hjm := (mB j).mpr ⟨by omega, hn⟩
        rcases List.mem_cons.mp hjm with e | e
        · omega
        · have := (List.pairwise_cons.mp hsrt).1 j e
          omega
      · rw [gIx_lst g2]
        simp [natsD]
  rintro r3 s3 ⟨rfl, rfl, i, hi, hn, hal, hix⟩
  have eT : T[i]? = some T[i] := List.getElem?_eq_getElem hi
  have hTi : famL T i = vecL T[i] := by simp [famL, List.getD_eq_getElem?_getD, hi]
  simp [hix]
  rw [show sumsD T = D.tup (T.map rowD) from rfl, slice_to (by rw [List.length_map]; omega), RW_of_some]
  rw [atI_in (a := rowD T[i]) (by omega) (by simp [hi]), ← List.map_take]
  simp only [Option.map_some, RW_of_some]
  refine (lmade_spec A (T := T.take i) (xs := T[i]) hp (by omega) (by omega) (by rw [List.length_take]; omega) (fun r hr => hT' r (List.mem_of_mem_take hr)) (hT' _ (List.getElem_mem hi))).imp fun v s4 ⟨q4, hv⟩ => ?_
  have hsp : Sp p w (upto (famL (T.take i)) (T.take i).length) (vecL T[i]) := by
    have hl : (T.take i).length = i := by rw [List.length_take]; omega
    rw [hl, ← hTi]
    have : upto (famL (T.take i)) i = upto (famL T) i := List.map_congr_left fun a ha => by
      have := List.mem_range.mp ha
      simp [famL, List.getD_eq_getElem?_getD, List.getElem?_take, this]
    rw [this]
    exact Classical.not_not.mp hn
  rcases hv with ⟨rfl, hno⟩ | ⟨c, rfl, hc⟩
  · exact absurd hsp hno
  have hsol := sol_take hi hc
  simp
  refine lc_ints (f := fun x => .int (-x % p)) (b := fun _ => true) ?_ ?_ ?_ ?_
  · simp
  · exact small24 (by rw [hsol.len]; omega)
  · intro x hx
    have hpp : 0 < p := by omega
    simp [wipeD, gMod, gSub, hpp]
  · rw [List.filter_eq_self.mpr fun _ _ => rfl]
    have hfl : c.map (fun x => D.int (-x % p)) = (c.map fun x => -x % p).map D.int := by rw [List.map_map]; rfl
    rw [hfl]
    have hk2 : ((T.length : Int) - (i : Int) - 1) = ((T.length - i - 1 : Nat) : Int) := by omega
    rw [hk2]
    have hcl := hsol.len
    exact tail_un (by simp; omega) fun s5 q5 => ⟨(q2.trans q4).trans q5, .inr ⟨i, c, hi, hn, hal, by rw [hTi]; exact hsol, rfl⟩⟩
end DL
end
/-! ### Lawt -/
section
set_option linter.all false
set_option maxRecDepth 100000
set_option maxHeartbeats 4000000
namespace M03
open PySem PySem.Spec L2
open PyProof.Rows hiding St
open DL LA
theorem fst_of {q : Nat} {xs : List Int} (hq : q < xs.length) (h0 : xs.getD q 0 ≠ 0) (hlo : ∀ j, j < q → xs.getD j 0 = 0) : fstNZ 0 xs = some q := by
  cases h : fstNZ 0 xs with
  | none =>
    have := fstNZ_none.mp h _ (List.getElem_mem hq)
    exact absurd (by simpa [List.getD_eq_getElem?_getD, hq] using this) h0
  | some k =>
    obtain ⟨_, h1, h2, h3⟩ := fstNZ_some h
    rcases Nat.lt_trichotomy k q with z | z | z
    · exact absurd (hlo k z) (by simpa using h2)
    · rw [z]
    · exact absurd (h3 q (by omega)) h0
theorem gNe_lists {s : Sto} {a b : Nat} {xs ys : List Int} (h1 : s[a]? = some (.lst (xs.map .int))) (h2 : s[b]? = some (.lst (ys.map .int))) : gNe (.loc a) (.loc b) s = some (.bl (!decide (xs = ys)), s) := by
  have h : ∀ {n : Nat} {zs : List Int}, s[n]? = some (.lst (zs.map .int)) → (D.loc n).py s = some (.list (zs.map PyData.int)) := fun {n zs} h => by simp [D.py, D.pyW, locPy, h, py_ints]
  have hs : ∀ zs : List Int, SeqAt.shaped (.list (zs.map PyData.int)) = true := fun zs => by simp [SeqAt.shaped, PyData.canLay0, PyData.depth, lay_ints, depth_ints]
  simp only [gNe, eqB, h h1, h h2, hs, PyData.eqv, eqv_ints]
  simp
def PlIn (s : Sto) (R : List (Nat × List Int)) (i : Nat) (s1 : Sto) (acc : List D) : Prop := Pre s s1 ∧ acc = natsD ((R.take i).map (·.1))
theorem all_or_any_false {α : Type} {Z : List α} : gAny ((Z.map fun _ => false).map .bl) = some (.bl false) := by
  rw [any_bls, List.any_map]
  congr 2
  rw [List.any_eq_false]
  simp
theorem addT_zero {p : Int} {w i : Nat} {T : List (List Int)} {c cs : List Int} (hp : 0 < p) (hT : ∀ r ∈ T, IsRow p w r) (hi : i < T.length) (h : Sol p w i (famL T) (famL T i) c) (hcs : c.map (fun x => -x % p) ++ [1] ++ List.replicate (T.length - i - 1) 0 = cs) :
    addT p (List.replicate w 0) T cs = List.replicate w 0 := by
  have hcl := h.len
  have hlen : cs.length = T.length := by rw [← hcs]; simp; omega
  have h1 := addT_row (p := p) (w := w) (T := T) (cs := cs) hp hT (IsRow.zeros hp)
  have h2 := addT_at (p := p) (w := w) (T := T) (cs := cs) hp hT (IsRow.zeros hp) hlen
  have g1 : ∀ k, k < i → cs.getD k 0 = -(c.getD k 0) % p := fun k hk => by
    rw [← hcs, List.append_assoc, List.getD_eq_getElem?_getD, List.getElem?_append_left (by simp; omega), List.getElem?_map, List.getElem?_eq_getElem (by omega)]
    simp [List.getD_eq_getElem?_getD, List.getElem?_eq_getElem (show k < c.length by omega)]
  have g2 : cs.getD i 0 = 1 := by
    rw [← hcs, List.append_assoc, List.getD_eq_getElem?_getD, List.getElem?_append_right (by simp; omega)]
    simp [hcl]
  have g3 : ∀ k, i + 1 ≤ k → k < T.length → cs.getD k 0 = 0 := fun k hk hk2 => by
    rw [← hcs, List.getD_eq_getElem?_getD, List.getElem?_append_right (by simp; omega)]
    simp [List.getElem?_replicate]
    split <;> rfl
  refine List.ext_getElem (by rw [h1.len]; simp) fun j h3 h4 => ?_
  have hj : j < w := by simpa using h4
  have a := h2 j hj
  have z : (List.replicate w (0 : Int)).getD j 0 = 0 := by simp [List.getD, hj]
  have g : (addT p (List.replicate w 0) T cs).getD j 0 = (addT p (List.replicate w 0) T cs)[j] := by simp [List.getD, h3]
  rw [z, g] at a
  have e1 : (sm T.length fun k => cs.getD k 0 * famL T k j) = sm (i + 1) fun k => cs.getD k 0 * famL T k j := sm_tail (by omega) fun k hk hk2 => by rw [g3 k hk hk2]; simp
  rw [e1] at a
  simp only [sm] at a
  rw [g2] at a
  have e2 : p ∣ sm i (fun k => cs.getD k 0 * famL T k j) - sm i fun k => (-(c.getD k 0)) * famL T k j := sm_cong fun k hk => by
    rw [g1 k hk]
    have := Int.emod_add_mul_ediv (-(c.getD k 0)) p
    exact ⟨-(-(c.getD k 0) / p), by grind⟩
  have e3 : sm i (fun k => (-(c.getD k 0)) * famL T k j) = - sm i fun k => c.getD k 0 * famL T k j := by
    have := sm_lin (-1) 0 (fun k => c.getD k 0 * famL T k j) (fun _ => 0) i
    rw [sm_congr (g := fun k => -1 * (c.getD k 0 * famL T k j) + 0 * 0) fun k _ => by grind, this]
    grind
  rw [e3] at e2
  have e4 := h.eq j hj
  have hd : p ∣ (addT p (List.replicate w 0) T cs)[j] := dvd3 1 1 1 a e2 e4 (by grind)
  have hb := h1.bd _ (List.getElem_mem h3)
  rw [dvd_small hd hb.1 hb.2]
  simp
def TrIn (i : Nat) (r : DL.Env) (s : Sto) : Prop := ∃ v0 v2 v3 v4 v5 v6 v7 v8 v9 v10 v11 v12 v13, r = [v0, some (D.loc 2), v2, v3, v4, v5, v6, v7, v8, v9, v10, v11, v12, v13] ∧ HS s
theorem law_true (A : Str → Addr) (ns : List Int) (h : ns.length ≤ 63) (a : Addr) : ∃ s, m_law A ns [.con (.ref a)] [] = .ok (.bl true) s := by
  suffices hh : RW (m_law A ns [.con (.ref a)] []) fun v s => v = .bl true by
    obtain ⟨v, s, e, rfl⟩ := hh.get
    exact ⟨s, e⟩
  unfold m_law
  rw [RW_def]
  refine ⟨rfl, ?_⟩
  simp
  rw [callS]
  refine (hand_spec A h).imp fun v s ⟨e, h0, _⟩ => ?_
  subst e
  refine SW_forGo TrIn ⟨_, _, _, _, _, _, _, _, _, _, _, _, _, rfl, h0⟩ (by intros; rfl) ?_ (fun _ _ _ => trivial)
  rintro i dd r s1 hdd ⟨v0, v2, v3, v4, v5, v6, v7, v8, v9, v10, v11, v12, v13, rfl, h1⟩
  rw [RW_gName, SW_seq]
  refine SW.midr (fun r s => ∃ (p : Int) (w : Nat), r = [v0, some (D.loc 2), some dd, some (.int p), some (.int (w : Int)), v5, v6, v7, v8, v9, v10, v11, v12, v13] ∧ HS s ∧ Pr p ∧ p ≤ 251 ∧ 1 ≤ w ∧ w ≤ 10) ?_ ?_
  · simp
    refine (lprime_spec A h1).imp fun v s2 ⟨e2, h2, p, e, hp, hp2⟩ => ?_
    subst e
    have := h2.len
    refine ⟨small24 (by omega), ?_⟩
    refine (any_spec A h2.push (.inr ⟨_, by omega, rfl, last_of⟩) (by simp) (by simp)).imp fun v s3 ⟨hv, h3, f3⟩ => ?_
    simp only [List.mem_cons, List.not_mem_nil, or_false] at hv
    rcases hv with rfl | rfl | rfl | rfl | rfl | rfl
    · exact ⟨p, 1, by simp, h3, hp, hp2, by omega, by omega⟩
    · exact ⟨p, 2, by simp, h3, hp, hp2, by omega, by omega⟩
    · exact ⟨p, 3, by simp, h3, hp, hp2, by omega, by omega⟩
    · exact ⟨p, 4, by simp, h3, hp, hp2, by omega, by omega⟩
    · exact ⟨p, 6, by simp, h3, hp, hp2, by omega, by omega⟩
    · exact ⟨p, 10, by simp, h3, hp, hp2, by omega, by omega⟩
  rintro r2 s2 ⟨p, w, rfl, h2, hp, hp2, hw1, hw2⟩
  have hp0 := hp.two
  clear h1
  rw [SW_seq]
  refine SW.midr (fun r s => ∃ (T : List (List Int)), r = [v0, some (D.loc 2), some dd, some (.int p), some (.int (w : Int)), some (sumsD T), v6, v7, v8, v9, v10, v11, v12, v13] ∧ HS s ∧ T.length ≤ 40 ∧ ∀ r ∈ T, IsSm p w r) ?_ ?_
  · simp
    have := h2.len
    refine ⟨small24 (by omega), ?_⟩
    refine (any_spec A h2.push (.inr ⟨_, by omega, rfl, last_of⟩) (by simp) (by simp)).imp fun v s3 ⟨hv, h3, f3⟩ => ?_
    obtain ⟨most, rfl, hm⟩ : ∃ most : Nat, v = .int (most : Int) ∧ most ≤ 40 := by
      simp only [List.mem_cons, List.not_mem_nil, or_false] at hv
      rcases hv with rfl | rfl | rfl | rfl
      · exact ⟨3, rfl, by omega⟩
      · exact ⟨6, rfl, by omega⟩
      · exact ⟨12, rfl, by omega⟩
      · exact ⟨40, rfl, by omega⟩
    refine (sums_spec A (p := p) (w := w) (most := most) (by omega) (by omega) (by omega) h3).imp fun v s4 ⟨⟨T, e, hl, hT⟩, h4, _⟩ => ?_
    subst e
    exact ⟨T, by simp, h4, by omega, hT⟩
  rintro r2 s3 ⟨T, rfl, h3, hl, hT⟩
  clear h2
  have hT' : ∀ r ∈ T, IsRow p w r := fun r hr => (hT r hr).1
  rw [SW_seq]
  refine SW.midr (fun r s => ∃ rows, r = [v0, some (D.loc 2), some dd, some (.int p), some (.int (w : Int)), some (sumsD T), some (sumsD rows), some (sumsD rows), v8, v9, v10, v11, v12, v13] ∧ HS s ∧ IsLad p w T rows) ?_ ?_
  · simp
    refine (lladder_spec A (T := T) hp (by omega) (by omega) (by omega) hT').imp fun v s4 ⟨q4, rows, e, hr⟩ => ?_
    subst e
    refine (ladder_spec A (T := T) hp hp2 ⟨hw1, hw2⟩ hl hT).imp fun v s5 ⟨q5, rows2, e, hr2⟩ => ?_
    subst e
    cases hr.same hp0 hr2
    exact ⟨rows, ⟨rfl, rfl⟩, q5.hs (q4.hs h3), hr⟩
  rintro r2 s4 ⟨rows, rfl, h4, hlad⟩
  clear h3
  have hrl := hlad.few
  have hrs := hlad.sms hp0
  rw [SW_seq]
  refine SW.midr (fun r s => r = [v0, some (D.loc 2), some dd, some (.int p), some (.int (w : Int)), some (sumsD T), some (sumsD rows), some (sumsD rows), v8, v9, v10, v11, v12, v13] ∧ HS s) ?_ ?_
  · simp
    rw [gNe_sums]
    simp
    refine lc_rw (f := fun _ => .bl true) (b := fun _ => true) (by simp [DL.guard]) (small24 (by rw [List.length_map]; omega)) ?_ ?_
    · intro d hd
      obtain ⟨r, _, rfl⟩ := List.mem_map.mp hd
      simp [wipeD]
    · rw [List.filter_eq_self.mpr fun _ _ => rfl]
      have e1 : (rows.map rowD).map (fun _ => D.bl true) = (rows.map fun _ => true).map .bl := by rw [List.map_map, List.map_map]; rfl
      rw [e1, all_bls]
      exact ⟨_, rfl, by simp, h4⟩
  rintro r2 s5 ⟨rfl, h5⟩
  clear h4
  rw [SW_seq]
  obtain ⟨R, hrow, hld⟩ := id hlad
  have hRl : R.length ≤ 10 := by have := congrArg List.length hrow; simp at this; omega
  refine SW.midr (fun r s => ∃ n, r = [v0, some (D.loc 2), some dd, some (.int p), some (.int (w : Int)), some (sumsD T), some (sumsD rows), some (sumsD rows), some (.loc n), v9, v10, v11, v12, v13] ∧ HS s ∧ s[n]? = some (.lst (natsD (R.map (·.1))))) ?_ ?_
  · simp
    refine RW_lcGo (PlIn s5 R) ⟨Pre.refl, by simp⟩ (by intros; simp [DL.guard]) ?_ ?_
    · rintro i d s6 acc hd ⟨q6, rfl⟩
      rw [hrow, List.map_map, List.getElem?_map, Option.map_eq_some_iff] at hd
      obtain ⟨e, he, rfl⟩ := hd
      have hem := List.mem_of_getElem? he
      have hil := (List.getElem?_eq_some_iff.mp he).1
      have hlen := (hld.row e hem).len
      simp [wipeD]
      refine lc_enum (f := fun _ i => .int (i : Int)) (b := fun x _ => !decide (x = 0)) (by simp [DL.guard]) (small24 (by omega)) ?_ ?_
      · intro x i hx
        simp
        exact Classical.em _
      · have hf := fst_of (q := e.1) (xs := e.2) (by rw [hlen]; exact hld.lt e hem) (by rw [hld.one' hp0 hem]; decide) (fun j hj => hld.low' hem hj)
        have hh := head_places e.2 0
        rw [hf] at hh
        cases hc : (e.2.zipIdx 0).filter fun q => !decide (q.1 = 0) with
        | nil => rw [hc] at hh; simp at hh
        | cons x L =>
          rw [hc] at hh
          simp at hh
          simp [hh]
          refine ⟨small24' (by omega), q6.push, ?_⟩
          rw [List.take_add_one, he]
          simp [natsD]
    · rintro s6 acc ⟨q6, rfl⟩
      refine ⟨q6.push.hs h5, ?_⟩
      rw [List.take_of_length_le (by rw [hrow]; simp)]
      simp [natsD]
  rintro r2 s6 ⟨n, rfl, h6, g6⟩
  clear h5
  have hasc : (R.map fun e => (e.1 : Int)).Pairwise (· < ·) := by
    have := hld.asc
    exact List.pairwise_map.mpr (this.imp fun h => by omega)
  have hnat : natsD (R.map (·.1)) = (R.map fun e => (e.1 : Int)).map .int := by simp [natsD]
  rw [SW_seq]
  refine SW.midr (fun r s => r = [v0, some (D.loc 2), some dd, some (.int p), some (.int (w : Int)), some (sumsD T), some (sumsD rows), some (sumsD rows), some (.loc n), v9, v10, v11, v12, v13] ∧ HS s) ?_ ?_
  · simp
    rw [hnat] at g6
    obtain ⟨Zs, hZ⟩ : ∃ Zs, (R.map fun e => (e.1 : Int)) = Zs := ⟨_, rfl⟩
    have hZl : Zs.length ≤ 10 := by rw [← hZ]; simpa using hRl
    rw [hZ] at g6 hasc
    have hsrt : gSrtU [.loc n] s6 = some (Zs.map .int) := by
      have hit : itS s6 (.loc n) = some (Zs.map .int) := by simp [itS, itL, g6]
      unfold gSrtU
      simp only [hit, Option.bind_some, intsD_map]
      rw [srtU_same hasc, if_pos ⟨by omega, by omega⟩]
    refine ⟨_, hsrt, ?_⟩
    have g7 : (s6 ++ [Ob.lst (Zs.map .int)])[n]? = some (.lst (Zs.map .int)) := by rw [List.getElem?_append_left (len_of g6)]; exact g6
    have h7 : HS (s6 ++ [Ob.lst (Zs.map .int)]) := h6.push
    rw [gNe_lists g7 last_of]
    simp
    refine ⟨_, _, src_lst g7, ?_⟩
    refine lc_rw (f := fun _ => .bl false) (b := fun _ => true) (by simp [DL.guard, g7]) (small24 (by simp; omega)) ?_ ?_
    · intro d hd
      have : ∃ e ∈ R, d = .tup [rowD e.2, .int (e.1 : Int)] := by
        obtain ⟨i, hi⟩ := List.mem_iff_getElem?.mp hd
        rw [hrow, ← hZ] at hi
        rw [List.getElem?_zipWith] at hi
        simp only [List.map_map, List.getElem?_map] at hi
        cases hR : R[i]? with
        | none => rw [hR] at hi; simp at hi
        | some e =>
          rw [hR] at hi
          simp at hi
          exact ⟨e, List.mem_of_getElem? hR, hi.symm⟩
      obtain ⟨e, he, rfl⟩ := this
      have hat := at_row (hld.row e he).len (hld.lt e he)
      rw [hld.one' hp0 he] at hat
      simp [wipeD]
      rw [hat]
      simp
    · rw [List.filter_eq_self.mpr fun _ _ => rfl]
      generalize (List.zipWith (fun x y => D.tup [x, y]) (rows.map rowD) (Zs.map .int)) = Z
      have e1 : Z.map (fun _ => D.bl false) = (Z.map fun _ => false).map .bl := by rw [List.map_map]; rfl
      rw [e1, all_or_any_false]
      exact ⟨_, rfl, rfl, h7⟩
  rintro r2 s7 ⟨rfl, h7⟩
  clear h6 g6
  rw [SW_seq]
  refine SW.midr (fun r s => ∃ O, r = [v0, some (D.loc 2), some dd, some (.int p), some (.int (w : Int)), some (sumsD T), some (sumsD rows), some (sumsD rows), some (.loc n), some (sumsD O), v10, v11, v12, v13] ∧ HS s ∧ O.length ≤ 40 ∧ ∀ r ∈ O, IsSm p w r) ?_ ?_
  · simp
    refine (others_spec A (T := T) h7 hp hp2 ⟨hw1, hw2⟩ hl hT).imp fun v s8 ⟨⟨O, e, hO, hOs⟩, h8, _⟩ => ⟨O, e, h8, hO, hOs⟩
  rintro r2 s8 ⟨O, rfl, h8, hO, hOs⟩
  clear h7
  rw [SW_seq]
  refine SW.midr (fun r s => ∃ rO, r = [v0, some (D.loc 2), some dd, some (.int p), some (.int (w : Int)), some (sumsD T), some (sumsD rows), some (sumsD rows), some (.loc n), some (sumsD O), some (.bl (decide (rows = rO))), v11, v12, v13] ∧ HS s ∧ IsLad p w O rO) ?_ ?_
  · simp
    refine (alike_spec A (T := T) (O := O) hp hp2 ⟨hw1, hw2⟩ hl hT hO hOs).imp fun v s9 ⟨q9, rT, rO, hrT, hrO, e⟩ => ?_
    subst e
    cases hrT.same hp0 hlad
    exact ⟨rO, rfl, q9.hs h8, hrO⟩
  rintro r2 s9 ⟨rO, rfl, h9, hrO⟩
  clear h8
  rw [SW_seq]
  refine SW.midr (fun r s => r = [v0, some (D.loc 2), some dd, some (.int p), some (.int (w : Int)), some (sumsD T), some (sumsD rows), some (sumsD rows), some (.loc n), some (sumsD O), some (.bl (decide (rows = rO))), v11, v12, v13] ∧ HS s) ?_ ?_
  · simp
    refine (lladder_spec A (T := O) hp (by omega) (by omega) (by omega) fun r hr => (hOs r hr).1).imp fun v s10 ⟨q10, rO2, e, hr2⟩ => ?_
    subst e
    cases hr2.same hp0 hrO
    rw [gEq_sums, RW_of_some, gNe_bl, RW_of_some]
    exact ⟨by simp [eq_comm], q10.hs h9⟩
  rintro r2 s10 ⟨rfl, h10⟩
  clear h9
  rw [SW_seq]
  refine SW.midr (fun r s => r = [v0, some (D.loc 2), some dd, some (.int p), some (.int (w : Int)), some (sumsD T), some (sumsD rows), some (sumsD rows), some (.loc n), some (sumsD O), some (.bl (decide (rows = rO))), v11, v12, v13] ∧ HS s) ?_ ?_
  · simp
    refine (alike_spec A (T := O) (O := T) hp hp2 ⟨hw1, hw2⟩ hO hOs hl hT).imp fun v s11 ⟨q11, rO2, rT, hr2, hrT, e⟩ => ?_
    subst e
    cases hr2.same hp0 hrO
    cases hrT.same hp0 hlad
    rw [gNe_bl, RW_of_some]
    exact ⟨by simp [eq_comm], q11.hs h10⟩
  rintro r2 s11 ⟨rfl, h11⟩
  clear h10
  rw [SW_seq]
  refine SW.midr (fun r s => r = [v0, some (D.loc 2), some dd, some (.int p), some (.int (w : Int)), some (sumsD T), some (sumsD rows), some (sumsD rows), some (.loc n), some (sumsD O), some (.bl (decide (rows = rO))), v11, v12, v13] ∧ HS s) ?_ ?_
  · simp
    refine (alike_spec A (T := T) (O := rows) hp hp2 ⟨hw1, hw2⟩ hl hT (by omega) hrs).imp fun v s12 ⟨q12, rT, rR, hrT, hrR, e⟩ => ?_
    subst e
    cases hrT.same hp0 hlad
    cases hrR.same hp0 hlad.self
    simp
    refine (ladder_spec A (T := rows) hp hp2 ⟨hw1, hw2⟩ (by omega) hrs).imp fun v s13 ⟨q13, rows2, e, hr2⟩ => ?_
    subst e
    cases hr2.same hp0 hlad.self
    rw [gNe_sums, RW_of_some]
    exact ⟨by simp, q13.hs (q12.hs h11)⟩
  rintro r2 s12 ⟨rfl, h12⟩
  clear h11
  rw [SW_seq]
  refine SW.midr (fun r s => r = [v0, some (D.loc 2), some dd, some (.int p), some (.int (w : Int)), some (sumsD T), some (sumsD rows), some (sumsD rows), some (.loc n), some (sumsD O), some (.bl (decide (rows = rO))), v11, v12, v13] ∧ HS s) ?_ ?_
  · simp
    refine (alike_spec A (T := T) (O := []) hp hp2 ⟨hw1, hw2⟩ hl hT (by simp) (by simp)).imp fun v s13 ⟨q13, rT, rR, hrT, hrR, e⟩ => ?_
    subst e
    cases hrT.same hp0 hlad
    cases hrR.same hp0 IsLad.nil
    rw [gNe_bl, RW_of_some]
    refine ⟨?_, q13.hs h12⟩
    have := hlad.nil_iff hp0 hT
    simp [this]
  rintro r2 s13 ⟨rfl, h13⟩
  clear h12
  rw [SW_seq]
  refine SW.midr (fun r s => ∃ v, r = [v0, some (D.loc 2), some dd, some (.int p), some (.int (w : Int)), some (sumsD T), some (sumsD rows), some (sumsD rows), some (.loc n), some (sumsD O), some (.bl (decide (rows = rO))), some v, v12, v13] ∧ HS s ∧ NoSol p w T v) ?_ ?_
  · simp
    exact (nought_spec A (T := T) hp hp2 ⟨hw1, hw2⟩ hl hT).imp fun v s14 ⟨q14, hv⟩ => ⟨q14.hs h13, hv⟩
  rintro r2 s14 ⟨v, rfl, h14, hv⟩
  clear h13
  rw [SW_seq]
  refine SW.midr (fun r s => r = [v0, some (D.loc 2), some dd, some (.int p), some (.int (w : Int)), some (sumsD T), some (sumsD rows), some (sumsD rows), some (.loc n), some (sumsD O), some (.bl (decide (rows = rO))), some v, v12, v13] ∧ HS s) ?_ ?_
  · simp
    refine (lnought_spec A (T := T) hp hp2 ⟨hw1, hw2⟩ hl hT).imp fun v' s15 ⟨q15, hv'⟩ => ?_
    cases hv.uniq hp hv'
    have h15 := q15.hs h14
    rcases hv with ⟨rfl, _⟩ | ⟨i, c, _, _, _, _, rfl⟩
    · simp [gNe, eqB]
      exact h15
    · rw [gNe_rows]
      simp
      exact h15
  rintro r2 s15 ⟨rfl, h15⟩
  clear h14
  simp
  rcases hv with ⟨rfl, _⟩ | ⟨i, c, hi, hni, _, hsol, rfl⟩
  · simp
    exact ⟨_, _, _, _, _, _, _, _, _, _, _, _, _, rfl, h15⟩
  rw [gIsNot_tn, RW_of_some]
  refine .inr ⟨rfl, ?_⟩
  obtain ⟨cs, hcs⟩ : ∃ cs, c.map (fun x => -x % p) ++ [1] ++ List.replicate (T.length - i - 1) 0 = cs := ⟨_, rfl⟩
  have hz := addT_zero (by omega) hT' hi hsol hcs
  rw [hcs]
  refine (ladded_spec A (T := T) (cs := cs) (by omega) (by omega) hT').imp fun v s16 ⟨q16, e⟩ => ?_
  subst e
  rw [hz]
  have hg : gS gAnyT [rowD (List.replicate w 0)] s16 = some (.bl false, s16) := by
    rw [gS_of .tup]
    have : trusF ((List.replicate w (0 : Int)).map .int) = some (List.replicate w false) := by
      generalize w = m
      induction m with
      | zero => rfl
      | succ m ih =>
        rw [List.replicate_succ, List.map_cons, trusF, ih]
        rfl
    show ((gAnyT ((List.replicate w (0 : Int)).map .int)).map fun z => (z, s16)) = _
    simp only [gAnyT, this]
    have hf : (List.replicate w false).any id = false := by rw [List.any_eq_false]; intro x hx; rw [(List.mem_replicate.mp hx).2]; simp
    simp [hf]
  rw [hg, RW_of_some]
  exact ⟨rfl, _, _, _, _, _, _, _, _, _, _, _, _, _, rfl, q16.hs h15⟩
end M03
end
/-! ### End -/
set_option linter.all false
set_option maxRecDepth 100000
set_option maxHeartbeats 4000000
namespace M03
open PySem PySem.Spec L2
open PyProof.Rows hiding St
open DL
def spLaw (K : PySem.W.Frag) : Sp := fun vs H Q _ => ∃ (a : Addr) (ns : List Int), vs = [.ref a] ∧ SqL K H a (ns.map V.int) ∧ ns.length ≤ 63 ∧ ∀ H2, Q (.bl true) H2
theorem all_mk {l : PySem.W.OpenLaw} {w : World} {K : PySem.W.Frag} {h : Heap} {mg : Str → Option Value} {C0 f0 f1 f2 f3 f4 f5 f6 f7 f8 f9 f10 f11 f12 f13 f14 f15 f16 f17 f18 f19 f20 f21 f22 f23 f24 f25 f26 f27 f28 f29 f30 f31 f32 f33 f34 f35 f36 f37 fa fb : Addr} {od0 an0 : Option Addr} {sl0 : Array (Option Value)} {oc0 kV0 dc0 pm0 cd0 ct0 : Value} {od1 an1 : Option Addr} {sl1 : Array (Option Value)} {oc1 kV1 dc1 pm1 cd1 ct1 : Value} {od2 an2 : Option Addr} {sl2 : Array (Option Value)} {oc2 kV2 dc2 pm2 cd2 ct2 : Value} {od3 an3 : Option Addr} {sl3 : Array (Option Value)} {oc3 kV3 dc3 pm3 cd3 ct3 : Value} {od4 an4 : Option Addr} {sl4 : Array (Option Value)} {oc4 kV4 dc4 pm4 cd4 ct4 : Value} {od5 an5 : Option Addr} {sl5 : Array (Option Value)} {oc5 kV5 dc5 pm5 cd5 ct5 : Value} {od6 an6 : Option Addr} {sl6 : Array (Option Value)} {oc6 kV6 dc6 pm6 cd6 ct6 : Value} {od7 an7 : Option Addr} {sl7 : Array (Option Value)} {oc7 kV7 dc7 pm7 cd7 ct7 : Value} {od8 an8 : Option Addr} {sl8 : Array (Option Value)} {oc8 kV8 dc8 pm8 cd8 ct8 : Value} {od9 an9 : Option Addr} {sl9 : Array (Option Value)} {oc9 kV9 dc9 pm9 cd9 ct9 : Value} {od10 an10 : Option Addr} {sl10 : Array (Option Value)} {oc10 kV10 dc10 pm10 cd10 ct10 : Value} {od11 an11 : Option Addr} {sl11 : Array (Option Value)} {oc11 kV11 dc11 pm11 cd11 ct11 : Value} {od12 an12 : Option Addr} {sl12 : Array (Option Value)} {oc12 kV12 dc12 pm12 cd12 ct12 : Value} {od13 an13 : Option Addr} {sl13 : Array (Option Value)} {oc13 kV13 dc13 pm13 cd13 ct13 : Value} {od14 an14 : Option Addr} {sl14 : Array (Option Value)} {oc14 kV14 dc14 pm14 cd14 ct14 : Value} {od15 an15 : Option Addr} {sl15 : Array (Option Value)} {oc15 kV15 dc15 pm15 cd15 ct15 : Value} {od16 an16 : Option Addr} {sl16 : Array (Option Value)} {oc16 kV16 dc16 pm16 cd16 ct16 : Value} {od17 an17 : Option Addr} {sl17 : Array (Option Value)} {oc17 kV17 dc17 pm17 cd17 ct17 : Value} {od18 an18 : Option Addr} {sl18 : Array (Option Value)} {oc18 kV18 dc18 pm18 cd18 ct18 : Value} {od19 an19 : Option Addr} {sl19 : Array (Option Value)} {oc19 kV19 dc19 pm19 cd19 ct19 : Value} {od20 an20 : Option Addr} {sl20 : Array (Option Value)} {oc20 kV20 dc20 pm20 cd20 ct20 : Value} {od21 an21 : Option Addr} {sl21 : Array (Option Value)} {oc21 kV21 dc21 pm21 cd21 ct21 : Value} {od22 an22 : Option Addr} {sl22 : Array (Option Value)} {oc22 kV22 dc22 pm22 cd22 ct22 : Value} {od23 an23 : Option Addr} {sl23 : Array (Option Value)} {oc23 kV23 dc23 pm23 cd23 ct23 : Value} {od24 an24 : Option Addr} {sl24 : Array (Option Value)} {oc24 kV24 dc24 pm24 cd24 ct24 : Value} {od25 an25 : Option Addr} {sl25 : Array (Option Value)} {oc25 kV25 dc25 pm25 cd25 ct25 : Value} {od26 an26 : Option Addr} {sl26 : Array (Option Value)} {oc26 kV26 dc26 pm26 cd26 ct26 : Value} {od27 an27 : Option Addr} {sl27 : Array (Option Value)} {oc27 kV27 dc27 pm27 cd27 ct27 : Value} {od28 an28 : Option Addr} {sl28 : Array (Option Value)} {oc28 kV28 dc28 pm28 cd28 ct28 : Value} {od29 an29 : Option Addr} {sl29 : Array (Option Value)} {oc29 kV29 dc29 pm29 cd29 ct29 : Value} {od30 an30 : Option Addr} {sl30 : Array (Option Value)} {oc30 kV30 dc30 pm30 cd30 ct30 : Value} {od31 an31 : Option Addr} {sl31 : Array (Option Value)} {oc31 kV31 dc31 pm31 cd31 ct31 : Value} {od32 an32 : Option Addr} {sl32 : Array (Option Value)} {oc32 kV32 dc32 pm32 cd32 ct32 : Value} {od33 an33 : Option Addr} {sl33 : Array (Option Value)} {oc33 kV33 dc33 pm33 cd33 ct33 : Value} {od34 an34 : Option Addr} {sl34 : Array (Option Value)} {oc34 kV34 dc34 pm34 cd34 ct34 : Value} {od35 an35 : Option Addr} {sl35 : Array (Option Value)} {oc35 kV35 dc35 pm35 cd35 ct35 : Value} {od36 an36 : Option Addr} {sl36 : Array (Option Value)} {oc36 kV36 dc36 pm36 cd36 ct36 : Value} {od37 an37 : Option Addr} {sl37 : Array (Option Value)} {oc37 kV37 dc37 pm37 cd37 ct37 : Value} {od38 an38 : Option Addr} {sl38 : Array (Option Value)} {oc38 kV38 dc38 pm38 cd38 ct38 : Value} {t_LEAST_PRIME : Tok} {t_MOST_PRIME : Tok} {t_MOST_WIDTH : Tok} {t_MOST_SUMS : Tok} (X : K.In h) (G : h.Ns mainGlobals mg) (hfa : mg "law" = some (.ref fa))
    (aCC0 : PySem.W.nsIn K mainGlobals "Steps" = some (some (.ref C0)))
    (a0 : PySem.W.nsIn K mainGlobals "_law_hand" = some (some (.ref f0)))
    (l0 : K.lookup f0 = some ⟨oc0, od0, .func (PySem.W.fnOf "_law_hand" "_law_hand" (defArgs st_law_hand) (defBody st_law_hand) (defScope st_law_hand) .none kV0 dc0 pm0 an0 cd0 ct0), sl0⟩)
    (c0 : PySem.W.codeIn K cd0 "_law_hand" = true)
    (k0 : PySem.W.keepIn K (.ref f0) = true)
    (a1 : PySem.W.nsIn K mainGlobals "_law_draw" = some (some (.ref f1)))
    (l1 : K.lookup f1 = some ⟨oc1, od1, .func (PySem.W.fnOf "_law_draw" "_law_draw" (defArgs st_law_draw) (defBody st_law_draw) (defScope st_law_draw) .none kV1 dc1 pm1 an1 cd1 ct1), sl1⟩)
    (c1 : PySem.W.codeIn K cd1 "_law_draw" = true)
    (k1 : PySem.W.keepIn K (.ref f1) = true)
    (a2 : PySem.W.nsIn K mainGlobals "_law_any" = some (some (.ref f2)))
    (l2 : K.lookup f2 = some ⟨oc2, od2, .func (PySem.W.fnOf "_law_any" "_law_any" (defArgs st_law_any) (defBody st_law_any) (defScope st_law_any) .none kV2 dc2 pm2 an2 cd2 ct2), sl2⟩)
    (c2 : PySem.W.codeIn K cd2 "_law_any" = true)
    (k2 : PySem.W.keepIn K (.ref f2) = true)
    (a3 : PySem.W.nsIn K mainGlobals "_law_prime" = some (some (.ref f3)))
    (l3 : K.lookup f3 = some ⟨oc3, od3, .func (PySem.W.fnOf "_law_prime" "_law_prime" (defArgs st_law_prime) (defBody st_law_prime) (defScope st_law_prime) .none kV3 dc3 pm3 an3 cd3 ct3), sl3⟩)
    (c3 : PySem.W.codeIn K cd3 "_law_prime" = true)
    (k3 : PySem.W.keepIn K (.ref f3) = true)
    (a4 : PySem.W.nsIn K mainGlobals "_law_mixed" = some (some (.ref f4)))
    (l4 : K.lookup f4 = some ⟨oc4, od4, .func (PySem.W.fnOf "_law_mixed" "_law_mixed" (defArgs st_law_mixed) (defBody st_law_mixed) (defScope st_law_mixed) .none kV4 dc4 pm4 an4 cd4 ct4), sl4⟩)
    (c4 : PySem.W.codeIn K cd4 "_law_mixed" = true)
    (k4 : PySem.W.keepIn K (.ref f4) = true)
    (a5 : PySem.W.nsIn K mainGlobals "_law_sum" = some (some (.ref f5)))
    (l5 : K.lookup f5 = some ⟨oc5, od5, .func (PySem.W.fnOf "_law_sum" "_law_sum" (defArgs st_law_sum) (defBody st_law_sum) (defScope st_law_sum) .none kV5 dc5 pm5 an5 cd5 ct5), sl5⟩)
    (c5 : PySem.W.codeIn K cd5 "_law_sum" = true)
    (k5 : PySem.W.keepIn K (.ref f5) = true)
    (a6 : PySem.W.nsIn K mainGlobals "_law_sums" = some (some (.ref f6)))
    (l6 : K.lookup f6 = some ⟨oc6, od6, .func (PySem.W.fnOf "_law_sums" "_law_sums" (defArgs st_law_sums) (defBody st_law_sums) (defScope st_law_sums) .none kV6 dc6 pm6 an6 cd6 ct6), sl6⟩)
    (c6 : PySem.W.codeIn K cd6 "_law_sums" = true)
    (k6 : PySem.W.keepIn K (.ref f6) = true)
    (a7 : PySem.W.nsIn K mainGlobals "is_integer" = some (some (.ref f7)))
    (l7 : K.lookup f7 = some ⟨oc7, od7, .func (PySem.W.fnOf "is_integer" "is_integer" (defArgs st_is_integer) (defBody st_is_integer) (defScope st_is_integer) .none kV7 dc7 pm7 an7 cd7 ct7), sl7⟩)
    (c7 : PySem.W.codeIn K cd7 "is_integer" = true)
    (k7 : PySem.W.keepIn K (.ref f7) = true)
    (a8 : PySem.W.nsIn K mainGlobals "is_within" = some (some (.ref f8)))
    (l8 : K.lookup f8 = some ⟨oc8, od8, .func (PySem.W.fnOf "is_within" "is_within" (defArgs st_is_within) (defBody st_is_within) (defScope st_is_within) .none kV8 dc8 pm8 an8 cd8 ct8), sl8⟩)
    (c8 : PySem.W.codeIn K cd8 "is_within" = true)
    (k8 : PySem.W.keepIn K (.ref f8) = true)
    (a9 : PySem.W.nsIn K mainGlobals "is_prime" = some (some (.ref f9)))
    (l9 : K.lookup f9 = some ⟨oc9, od9, .func (PySem.W.fnOf "is_prime" "is_prime" (defArgs st_is_prime) (defBody st_is_prime) (defScope st_is_prime) .none kV9 dc9 pm9 an9 cd9 ct9), sl9⟩)
    (c9 : PySem.W.codeIn K cd9 "is_prime" = true)
    (k9 : PySem.W.keepIn K (.ref f9) = true)
    (a10 : PySem.W.nsIn K mainGlobals "check_prime" = some (some (.ref f10)))
    (l10 : K.lookup f10 = some ⟨oc10, od10, .func (PySem.W.fnOf "check_prime" "check_prime" (defArgs st_check_prime) (defBody st_check_prime) (defScope st_check_prime) .none kV10 dc10 pm10 an10 cd10 ct10), sl10⟩)
    (c10 : PySem.W.codeIn K cd10 "check_prime" = true)
    (k10 : PySem.W.keepIn K (.ref f10) = true)
    (a11 : PySem.W.nsIn K mainGlobals "is_sum" = some (some (.ref f11)))
    (l11 : K.lookup f11 = some ⟨oc11, od11, .func (PySem.W.fnOf "is_sum" "is_sum" (defArgs st_is_sum) (defBody st_is_sum) (defScope st_is_sum) .none kV11 dc11 pm11 an11 cd11 ct11), sl11⟩)
    (c11 : PySem.W.codeIn K cd11 "is_sum" = true)
    (k11 : PySem.W.keepIn K (.ref f11) = true)
    (a12 : PySem.W.nsIn K mainGlobals "are_sums" = some (some (.ref f12)))
    (l12 : K.lookup f12 = some ⟨oc12, od12, .func (PySem.W.fnOf "are_sums" "are_sums" (defArgs st_are_sums) (defBody st_are_sums) (defScope st_are_sums) .none kV12 dc12 pm12 an12 cd12 ct12), sl12⟩)
    (c12 : PySem.W.codeIn K cd12 "are_sums" = true)
    (k12 : PySem.W.keepIn K (.ref f12) = true)
    (a13 : PySem.W.nsIn K mainGlobals "check_sums" = some (some (.ref f13)))
    (l13 : K.lookup f13 = some ⟨oc13, od13, .func (PySem.W.fnOf "check_sums" "check_sums" (defArgs st_check_sums) (defBody st_check_sums) (defScope st_check_sums) .none kV13 dc13 pm13 an13 cd13 ct13), sl13⟩)
    (c13 : PySem.W.codeIn K cd13 "check_sums" = true)
    (k13 : PySem.W.keepIn K (.ref f13) = true)
    (a14 : PySem.W.findIn K (.ref C0) "__init__" = some (some (.ref f14)))
    (i14 : PySem.W.isFn K (.ref f14) = true)
    (l14 : K.lookup f14 = some ⟨oc14, od14, .func (PySem.W.fnOf "__init__" "Steps.__init__" (defArgs st_Steps_init) (defBody st_Steps_init) (defScope st_Steps_init) .none kV14 dc14 pm14 an14 cd14 ct14), sl14⟩)
    (c14 : PySem.W.codeIn K cd14 "Steps.__init__" = true)
    (k14 : PySem.W.keepIn K (.ref f14) = true)
    (a15 : PySem.W.nsIn K mainGlobals "less_times" = some (some (.ref f15)))
    (l15 : K.lookup f15 = some ⟨oc15, od15, .func (PySem.W.fnOf "less_times" "less_times" (defArgs st_less_times) (defBody st_less_times) (defScope st_less_times) .none kV15 dc15 pm15 an15 cd15 ct15), sl15⟩)
    (c15 : PySem.W.codeIn K cd15 "less_times" = true)
    (k15 : PySem.W.keepIn K (.ref f15) = true)
    (a16 : PySem.W.findIn K (.ref C0) "fallen" = some (some (.ref f16)))
    (i16 : PySem.W.isFn K (.ref f16) = true)
    (l16 : K.lookup f16 = some ⟨oc16, od16, .func (PySem.W.fnOf "fallen" "Steps.fallen" (defArgs st_Steps_fallen) (defBody st_Steps_fallen) (defScope st_Steps_fallen) .none kV16 dc16 pm16 an16 cd16 ct16), sl16⟩)
    (c16 : PySem.W.codeIn K cd16 "Steps.fallen" = true)
    (k16 : PySem.W.keepIn K (.ref f16) = true)
    (a17 : PySem.W.nsIn K mainGlobals "first_place" = some (some (.ref f17)))
    (l17 : K.lookup f17 = some ⟨oc17, od17, .func (PySem.W.fnOf "first_place" "first_place" (defArgs st_first_place) (defBody st_first_place) (defScope st_first_place) .none kV17 dc17 pm17 an17 cd17 ct17), sl17⟩)
    (c17 : PySem.W.codeIn K cd17 "first_place" = true)
    (k17 : PySem.W.keepIn K (.ref f17) = true)
    (a18 : PySem.W.nsIn K mainGlobals "inverse" = some (some (.ref f18)))
    (l18 : K.lookup f18 = some ⟨oc18, od18, .func (PySem.W.fnOf "inverse" "inverse" (defArgs st_inverse) (defBody st_inverse) (defScope st_inverse) .none kV18 dc18 pm18 an18 cd18 ct18), sl18⟩)
    (c18 : PySem.W.codeIn K cd18 "inverse" = true)
    (k18 : PySem.W.keepIn K (.ref f18) = true)
    (a19 : PySem.W.findIn K (.ref C0) "cleared" = some (some (.ref f19)))
    (i19 : PySem.W.isFn K (.ref f19) = true)
    (l19 : K.lookup f19 = some ⟨oc19, od19, .func (PySem.W.fnOf "cleared" "Steps.cleared" (defArgs st_Steps_cleared) (defBody st_Steps_cleared) (defScope st_Steps_cleared) .none kV19 dc19 pm19 an19 cd19 ct19), sl19⟩)
    (c19 : PySem.W.codeIn K cd19 "Steps.cleared" = true)
    (k19 : PySem.W.keepIn K (.ref f19) = true)
    (a20 : PySem.W.findIn K (.ref C0) "take" = some (some (.ref f20)))
    (i20 : PySem.W.isFn K (.ref f20) = true)
    (l20 : K.lookup f20 = some ⟨oc20, od20, .func (PySem.W.fnOf "take" "Steps.take" (defArgs st_Steps_take) (defBody st_Steps_take) (defScope st_Steps_take) .none kV20 dc20 pm20 an20 cd20 ct20), sl20⟩)
    (c20 : PySem.W.codeIn K cd20 "Steps.take" = true)
    (k20 : PySem.W.keepIn K (.ref f20) = true)
    (a21 : PySem.W.nsIn K mainGlobals "steps_of" = some (some (.ref f21)))
    (l21 : K.lookup f21 = some ⟨oc21, od21, .func (PySem.W.fnOf "steps_of" "steps_of" (defArgs st_steps_of) (defBody st_steps_of) (defScope st_steps_of) .none kV21 dc21 pm21 an21 cd21 ct21), sl21⟩)
    (c21 : PySem.W.codeIn K cd21 "steps_of" = true)
    (k21 : PySem.W.keepIn K (.ref f21) = true)
    (a22 : PySem.W.nsIn K mainGlobals "ladder_of" = some (some (.ref f22)))
    (l22 : K.lookup f22 = some ⟨oc22, od22, .func (PySem.W.fnOf "ladder_of" "ladder_of" (defArgs st_ladder_of) (defBody st_ladder_of) (defScope st_ladder_of) .none kV22 dc22 pm22 an22 cd22 ct22), sl22⟩)
    (c22 : PySem.W.codeIn K cd22 "ladder_of" = true)
    (k22 : PySem.W.keepIn K (.ref f22) = true)
    (a23 : PySem.W.nsIn K mainGlobals "ladder" = some (some (.ref f23)))
    (l23 : K.lookup f23 = some ⟨oc23, od23, .func (PySem.W.fnOf "ladder" "ladder" (defArgs st_ladder) (defBody st_ladder) (defScope st_ladder) .none kV23 dc23 pm23 an23 cd23 ct23), sl23⟩)
    (c23 : PySem.W.codeIn K cd23 "ladder" = true)
    (k23 : PySem.W.keepIn K (.ref f23) = true)
    (a24 : PySem.W.nsIn K mainGlobals "_law_times" = some (some (.ref f24)))
    (l24 : K.lookup f24 = some ⟨oc24, od24, .func (PySem.W.fnOf "_law_times" "_law_times" (defArgs st_law_times) (defBody st_law_times) (defScope st_law_times) .none kV24 dc24 pm24 an24 cd24 ct24), sl24⟩)
    (c24 : PySem.W.codeIn K cd24 "_law_times" = true)
    (k24 : PySem.W.keepIn K (.ref f24) = true)
    (a25 : PySem.W.nsIn K mainGlobals "_law_fallen" = some (some (.ref f25)))
    (l25 : K.lookup f25 = some ⟨oc25, od25, .func (PySem.W.fnOf "_law_fallen" "_law_fallen" (defArgs st_law_fallen) (defBody st_law_fallen) (defScope st_law_fallen) .none kV25 dc25 pm25 an25 cd25 ct25), sl25⟩)
    (c25 : PySem.W.codeIn K cd25 "_law_fallen" = true)
    (k25 : PySem.W.keepIn K (.ref f25) = true)
    (a26 : PySem.W.nsIn K mainGlobals "_law_inverse" = some (some (.ref f26)))
    (l26 : K.lookup f26 = some ⟨oc26, od26, .func (PySem.W.fnOf "_law_inverse" "_law_inverse" (defArgs st_law_inverse) (defBody st_law_inverse) (defScope st_law_inverse) .none kV26 dc26 pm26 an26 cd26 ct26), sl26⟩)
    (c26 : PySem.W.codeIn K cd26 "_law_inverse" = true)
    (k26 : PySem.W.keepIn K (.ref f26) = true)
    (a27 : PySem.W.nsIn K mainGlobals "_law_taken" = some (some (.ref f27)))
    (l27 : K.lookup f27 = some ⟨oc27, od27, .func (PySem.W.fnOf "_law_taken" "_law_taken" (defArgs st_law_taken) (defBody st_law_taken) (defScope st_law_taken) .none kV27 dc27 pm27 an27 cd27 ct27), sl27⟩)
    (c27 : PySem.W.codeIn K cd27 "_law_taken" = true)
    (k27 : PySem.W.keepIn K (.ref f27) = true)
    (a28 : PySem.W.nsIn K mainGlobals "_law_ladder" = some (some (.ref f28)))
    (l28 : K.lookup f28 = some ⟨oc28, od28, .func (PySem.W.fnOf "_law_ladder" "_law_ladder" (defArgs st_law_ladder) (defBody st_law_ladder) (defScope st_law_ladder) .none kV28 dc28 pm28 an28 cd28 ct28), sl28⟩)
    (c28 : PySem.W.codeIn K cd28 "_law_ladder" = true)
    (k28 : PySem.W.keepIn K (.ref f28) = true)
    (a29 : PySem.W.nsIn K mainGlobals "_law_turned" = some (some (.ref f29)))
    (l29 : K.lookup f29 = some ⟨oc29, od29, .func (PySem.W.fnOf "_law_turned" "_law_turned" (defArgs st_law_turned) (defBody st_law_turned) (defScope st_law_turned) .none kV29 dc29 pm29 an29 cd29 ct29), sl29⟩)
    (c29 : PySem.W.codeIn K cd29 "_law_turned" = true)
    (k29 : PySem.W.keepIn K (.ref f29) = true)
    (a30 : PySem.W.nsIn K mainGlobals "_law_others" = some (some (.ref f30)))
    (l30 : K.lookup f30 = some ⟨oc30, od30, .func (PySem.W.fnOf "_law_others" "_law_others" (defArgs st_law_others) (defBody st_law_others) (defScope st_law_others) .none kV30 dc30 pm30 an30 cd30 ct30), sl30⟩)
    (c30 : PySem.W.codeIn K cd30 "_law_others" = true)
    (k30 : PySem.W.keepIn K (.ref f30) = true)
    (a31 : PySem.W.nsIn K mainGlobals "alike" = some (some (.ref f31)))
    (l31 : K.lookup f31 = some ⟨oc31, od31, .func (PySem.W.fnOf "alike" "alike" (defArgs st_alike) (defBody st_alike) (defScope st_alike) .none kV31 dc31 pm31 an31 cd31 ct31), sl31⟩)
    (c31 : PySem.W.codeIn K cd31 "alike" = true)
    (k31 : PySem.W.keepIn K (.ref f31) = true)
    (a32 : PySem.W.findIn K (.ref C0) "is_made" = some (some (.ref f32)))
    (i32 : PySem.W.isFn K (.ref f32) = true)
    (l32 : K.lookup f32 = some ⟨oc32, od32, .func (PySem.W.fnOf "is_made" "Steps.is_made" (defArgs st_Steps_is_made) (defBody st_Steps_is_made) (defScope st_Steps_is_made) .none kV32 dc32 pm32 an32 cd32 ct32), sl32⟩)
    (c32 : PySem.W.codeIn K cd32 "Steps.is_made" = true)
    (k32 : PySem.W.keepIn K (.ref f32) = true)
    (a33 : PySem.W.findIn K (.ref C0) "made_by" = some (some (.ref f33)))
    (i33 : PySem.W.isFn K (.ref f33) = true)
    (l33 : K.lookup f33 = some ⟨oc33, od33, .func (PySem.W.fnOf "made_by" "Steps.made_by" (defArgs st_Steps_made_by) (defBody st_Steps_made_by) (defScope st_Steps_made_by) .none kV33 dc33 pm33 an33 cd33 ct33), sl33⟩)
    (c33 : PySem.W.codeIn K cd33 "Steps.made_by" = true)
    (k33 : PySem.W.keepIn K (.ref f33) = true)
    (a34 : PySem.W.nsIn K mainGlobals "nought" = some (some (.ref f34)))
    (l34 : K.lookup f34 = some ⟨oc34, od34, .func (PySem.W.fnOf "nought" "nought" (defArgs st_nought) (defBody st_nought) (defScope st_nought) .none kV34 dc34 pm34 an34 cd34 ct34), sl34⟩)
    (c34 : PySem.W.codeIn K cd34 "nought" = true)
    (k34 : PySem.W.keepIn K (.ref f34) = true)
    (a35 : PySem.W.nsIn K mainGlobals "_law_made" = some (some (.ref f35)))
    (l35 : K.lookup f35 = some ⟨oc35, od35, .func (PySem.W.fnOf "_law_made" "_law_made" (defArgs st_law_made) (defBody st_law_made) (defScope st_law_made) .none kV35 dc35 pm35 an35 cd35 ct35), sl35⟩)
    (c35 : PySem.W.codeIn K cd35 "_law_made" = true)
    (k35 : PySem.W.keepIn K (.ref f35) = true)
    (a36 : PySem.W.nsIn K mainGlobals "_law_nought" = some (some (.ref f36)))
    (l36 : K.lookup f36 = some ⟨oc36, od36, .func (PySem.W.fnOf "_law_nought" "_law_nought" (defArgs st_law_nought) (defBody st_law_nought) (defScope st_law_nought) .none kV36 dc36 pm36 an36 cd36 ct36), sl36⟩)
    (c36 : PySem.W.codeIn K cd36 "_law_nought" = true)
    (k36 : PySem.W.keepIn K (.ref f36) = true)
    (a37 : PySem.W.nsIn K mainGlobals "_law_added" = some (some (.ref f37)))
    (l37 : K.lookup f37 = some ⟨oc37, od37, .func (PySem.W.fnOf "_law_added" "_law_added" (defArgs st_law_added) (defBody st_law_added) (defScope st_law_added) .none kV37 dc37 pm37 an37 cd37 ct37), sl37⟩)
    (c37 : PySem.W.codeIn K cd37 "_law_added" = true)
    (k37 : PySem.W.keepIn K (.ref f37) = true)
    (a38 : PySem.W.nsIn K mainGlobals "law" = some (some (.ref fb)))
    (l38 : K.lookup fb = some ⟨oc38, od38, .func (PySem.W.fnOf "law" "law" (defArgs st_law) (defBody st_law) (defScope st_law) .none kV38 dc38 pm38 an38 cd38 ct38), sl38⟩)
    (c38 : PySem.W.codeIn K cd38 "law" = true)
    (k38 : PySem.W.keepIn K (.ref fb) = true)
    (pgC0 : PySem.W.plainGet K C0 Str.empty = true)
    (hdC0 : PySem.W.hasDictIn K C0 = true)
    (poC0 : PySem.W.plainOver K C0 = true)
    (saC0 : PySem.W.findIn K (.ref C0) "__setattr__" = some (some (.builtin "object.__setattr__")))
    (mkC0 : PySem.W.makesIn K C0 = true)
    (kcC0 : PySem.W.keepIn K (.ref C0) = true)
    (nC0_kept_prime : PySem.W.findIn K (.ref C0) "kept_prime" = some none)
    (nC0_kept_rows : PySem.W.findIn K (.ref C0) "kept_rows" = some none)
    (z_abs : PySem.W.nsIn K mainGlobals "abs" = some none)
    (z_int : PySem.W.nsIn K mainGlobals "int" = some none)
    (z_len : PySem.W.nsIn K mainGlobals "len" = some none)
    (z_any : PySem.W.nsIn K mainGlobals "any" = some none)
    (z_range : PySem.W.nsIn K mainGlobals "range" = some none)
    (z_tuple : PySem.W.nsIn K mainGlobals "tuple" = some none)
    (z_zip : PySem.W.nsIn K mainGlobals "zip" = some none)
    (z_bool : PySem.W.nsIn K mainGlobals "bool" = some none)
    (z_isinstance : PySem.W.nsIn K mainGlobals "isinstance" = some none)
    (z_all : PySem.W.nsIn K mainGlobals "all" = some none)
    (v_LEAST_PRIME : PySem.W.nsIn K mainGlobals "LEAST_PRIME" = some (some (.int 2 t_LEAST_PRIME)))
    (v_MOST_PRIME : PySem.W.nsIn K mainGlobals "MOST_PRIME" = some (some (.int 251 t_MOST_PRIME)))
    (v_MOST_WIDTH : PySem.W.nsIn K mainGlobals "MOST_WIDTH" = some (some (.int 10 t_MOST_WIDTH)))
    (v_MOST_SUMS : PySem.W.nsIn K mainGlobals "MOST_SUMS" = some (some (.int 40 t_MOST_SUMS)))
    (z_dict : PySem.W.nsIn K mainGlobals "dict" = some none)
    (z_list : PySem.W.nsIn K mainGlobals "list" = some none)
    (z_sorted : PySem.W.nsIn K mainGlobals "sorted" = some none)
    (z_enumerate : PySem.W.nsIn K mainGlobals "enumerate" = some none)
    (z_set : PySem.W.nsIn K mainGlobals "set" = some none)
    : ∃ fd : FuncData, (∀ (s : Shared) (v : Value), BindsTo s fd ⟨[v], []⟩ [("_law_script", v)]) ∧ ∀ base : Heap, K.In base → base.Ns mainGlobals mg → FnOk l.prog w K mg base (L2.CX l.prog w) 7 fa fd ["_law_script"] (spLaw K) := by
  have efa := hfa.symm.trans (PySem.W.mg_of X G a38)
  cases efa
  have hA : ∃ A : Str → Addr, A "Steps" = C0 := ⟨fun x => if x = "Steps" then C0 else 0, if_pos rfl⟩
  obtain ⟨A, hAC0⟩ := hA
  subst hAC0
  have T : Txt K mg A := ⟨PySem.W.mg_none_of X G z_abs, PySem.W.mg_none_of X G z_int, PySem.W.mg_none_of X G z_len, PySem.W.mg_none_of X G z_any, PySem.W.mg_none_of X G z_range, PySem.W.mg_none_of X G z_tuple, PySem.W.mg_none_of X G z_zip, PySem.W.mg_none_of X G z_bool, PySem.W.mg_none_of X G z_isinstance, PySem.W.mg_none_of X G z_all, ⟨_, PySem.W.mg_of X G v_LEAST_PRIME⟩, ⟨_, PySem.W.mg_of X G v_MOST_PRIME⟩, ⟨_, PySem.W.mg_of X G v_MOST_WIDTH⟩, ⟨_, PySem.W.mg_of X G v_MOST_SUMS⟩, PySem.W.mg_none_of X G z_dict, PySem.W.mg_none_of X G z_list, PySem.W.mg_none_of X G z_sorted, PySem.W.mg_none_of X G z_enumerate, ⟨pgC0, hdC0, poC0, saC0⟩, PySem.W.mg_none_of X G z_set, (plain_cons ⟨pgC0, hdC0, poC0, saC0⟩ nC0_kept_prime plain_nil), (plain_cons ⟨pgC0, hdC0, poC0, saC0⟩ nC0_kept_rows plain_nil)⟩
  have F0 := fun_mk (st := st_law_hand) l0 c0 k0
  have B0 := F0.binds (ps := ["_law_script"]) fun _ _ _ _ _ _ us hl => match us, hl with | [_], _ => rfl
  have F1 := fun_mk (st := st_law_draw) l1 c1 k1
  have B1 := F1.binds (ps := ["_law_hand_here", "_law_many"]) fun _ _ _ _ _ _ us hl => match us, hl with | [_, _], _ => rfl
  have F2 := fun_mk (st := st_law_any) l2 c2 k2
  have B2 := F2.binds (ps := ["_law_hand_here", "_law_some"]) fun _ _ _ _ _ _ us hl => match us, hl with | [_, _], _ => rfl
  have F3 := fun_mk (st := st_law_prime) l3 c3 k3
  have B3 := F3.binds (ps := ["_law_hand_here"]) fun _ _ _ _ _ _ us hl => match us, hl with | [_], _ => rfl
  have F4 := fun_mk (st := st_law_mixed) l4 c4 k4
  have B4 := F4.binds (ps := ["_law_hand_here", "_law_prime_here", "_law_sums_here"]) fun _ _ _ _ _ _ us hl => match us, hl with | [_, _, _], _ => rfl
  have F5 := fun_mk (st := st_law_sum) l5 c5 k5
  have B5 := F5.binds (ps := ["_law_hand_here", "_law_prime_here", "_law_width"]) fun _ _ _ _ _ _ us hl => match us, hl with | [_, _, _], _ => rfl
  have F6 := fun_mk (st := st_law_sums) l6 c6 k6
  have B6 := F6.binds (ps := ["_law_hand_here", "_law_prime_here", "_law_width", "_law_most"]) fun _ _ _ _ _ _ us hl => match us, hl with | [_, _, _, _], _ => rfl
  have F7 := fun_mk (st := st_is_integer) l7 c7 k7
  have B7 := F7.binds (ps := ["thing"]) fun _ _ _ _ _ _ us hl => match us, hl with | [_], _ => rfl
  have F8 := fun_mk (st := st_is_within) l8 c8 k8
  have B8 := F8.binds (ps := ["thing", "least", "most"]) fun _ _ _ _ _ _ us hl => match us, hl with | [_, _, _], _ => rfl
  have F9 := fun_mk (st := st_is_prime) l9 c9 k9
  have B9 := F9.binds (ps := ["thing"]) fun _ _ _ _ _ _ us hl => match us, hl with | [_], _ => rfl
  have F10 := fun_mk (st := st_check_prime) l10 c10 k10
  have B10 := F10.binds (ps := ["prime"]) fun _ _ _ _ _ _ us hl => match us, hl with | [_], _ => rfl
  have F11 := fun_mk (st := st_is_sum) l11 c11 k11
  have B11 := F11.binds (ps := ["prime", "thing"]) fun _ _ _ _ _ _ us hl => match us, hl with | [_, _], _ => rfl
  have F12 := fun_mk (st := st_are_sums) l12 c12 k12
  have B12 := F12.binds (ps := ["prime", "thing"]) fun _ _ _ _ _ _ us hl => match us, hl with | [_, _], _ => rfl
  have F13 := fun_mk (st := st_check_sums) l13 c13 k13
  have B13 := F13.binds (ps := ["prime", "sums"]) fun _ _ _ _ _ _ us hl => match us, hl with | [_, _], _ => rfl
  have F14 := fun_mk (st := st_Steps_init) l14 c14 k14
  have B14 := F14.binds (ps := ["self", "prime"]) fun _ _ _ _ _ _ us hl => match us, hl with | [_, _], _ => rfl
  have F15 := fun_mk (st := st_less_times) l15 c15 k15
  have B15 := F15.binds (ps := ["prime", "row", "times", "other"]) fun _ _ _ _ _ _ us hl => match us, hl with | [_, _, _, _], _ => rfl
  have F16 := fun_mk (st := st_Steps_fallen) l16 c16 k16
  have B16 := F16.binds (ps := ["self", "row", "made"]) fun _ _ _ _ _ _ us hl => match us, hl with | [_, _, _], _ => rfl
  have F17 := fun_mk (st := st_first_place) l17 c17 k17
  have B17 := F17.binds (ps := ["row"]) fun _ _ _ _ _ _ us hl => match us, hl with | [_], _ => rfl
  have F18 := fun_mk (st := st_inverse) l18 c18 k18
  have B18 := F18.binds (ps := ["prime", "value"]) fun _ _ _ _ _ _ us hl => match us, hl with | [_, _], _ => rfl
  have F19 := fun_mk (st := st_Steps_cleared) l19 c19 k19
  have B19 := F19.binds (ps := ["self", "pair", "place", "left", "made"]) fun _ _ _ _ _ _ us hl => match us, hl with | [_, _, _, _, _], _ => rfl
  have F20 := fun_mk (st := st_Steps_take) l20 c20 k20
  have B20 := F20.binds (ps := ["self", "name", "row"]) fun _ _ _ _ _ _ us hl => match us, hl with | [_, _, _], _ => rfl
  have F21 := fun_mk (st := st_steps_of) l21 c21 k21
  have B21 := F21.binds (ps := ["prime", "sums"]) fun _ _ _ _ _ _ us hl => match us, hl with | [_, _], _ => rfl
  have F22 := fun_mk (st := st_ladder_of) l22 c22 k22
  have B22 := F22.binds (ps := ["prime", "sums"]) fun _ _ _ _ _ _ us hl => match us, hl with | [_, _], _ => rfl
  have F23 := fun_mk (st := st_ladder) l23 c23 k23
  have B23 := F23.binds (ps := ["prime", "sums"]) fun _ _ _ _ _ _ us hl => match us, hl with | [_, _], _ => rfl
  have F24 := fun_mk (st := st_law_times) l24 c24 k24
  have B24 := F24.binds (ps := ["_law_prime_here", "_law_row", "_law_times_here", "_law_other"]) fun _ _ _ _ _ _ us hl => match us, hl with | [_, _, _, _], _ => rfl
  have F25 := fun_mk (st := st_law_fallen) l25 c25 k25
  have B25 := F25.binds (ps := ["_law_prime_here", "_law_steps", "_law_row"]) fun _ _ _ _ _ _ us hl => match us, hl with | [_, _, _], _ => rfl
  have F26 := fun_mk (st := st_law_inverse) l26 c26 k26
  have B26 := F26.binds (ps := ["_law_prime_here", "_law_value"]) fun _ _ _ _ _ _ us hl => match us, hl with | [_, _], _ => rfl
  have F27 := fun_mk (st := st_law_taken) l27 c27 k27
  have B27 := F27.binds (ps := ["_law_prime_here", "_law_sums_here"]) fun _ _ _ _ _ _ us hl => match us, hl with | [_, _], _ => rfl
  have F28 := fun_mk (st := st_law_ladder) l28 c28 k28
  have B28 := F28.binds (ps := ["_law_prime_here", "_law_sums_here"]) fun _ _ _ _ _ _ us hl => match us, hl with | [_, _], _ => rfl
  have F29 := fun_mk (st := st_law_turned) l29 c29 k29
  have B29 := F29.binds (ps := ["_law_hand_here", "_law_things"]) fun _ _ _ _ _ _ us hl => match us, hl with | [_, _], _ => rfl
  have F30 := fun_mk (st := st_law_others) l30 c30 k30
  have B30 := F30.binds (ps := ["_law_hand_here", "_law_prime_here", "_law_width", "_law_sums_here"]) fun _ _ _ _ _ _ us hl => match us, hl with | [_, _, _, _], _ => rfl
  have F31 := fun_mk (st := st_alike) l31 c31 k31
  have B31 := F31.binds (ps := ["prime", "sums", "others"]) fun _ _ _ _ _ _ us hl => match us, hl with | [_, _, _], _ => rfl
  have F32 := fun_mk (st := st_Steps_is_made) l32 c32 k32
  have B32 := F32.binds (ps := ["self", "row"]) fun _ _ _ _ _ _ us hl => match us, hl with | [_, _], _ => rfl
  have F33 := fun_mk (st := st_Steps_made_by) l33 c33 k33
  have B33 := F33.binds (ps := ["self", "row"]) fun _ _ _ _ _ _ us hl => match us, hl with | [_, _], _ => rfl
  have F34 := fun_mk (st := st_nought) l34 c34 k34
  have B34 := F34.binds (ps := ["prime", "sums"]) fun _ _ _ _ _ _ us hl => match us, hl with | [_, _], _ => rfl
  have F35 := fun_mk (st := st_law_made) l35 c35 k35
  have B35 := F35.binds (ps := ["_law_prime_here", "_law_sums_here", "_law_thing"]) fun _ _ _ _ _ _ us hl => match us, hl with | [_, _, _], _ => rfl
  have F36 := fun_mk (st := st_law_nought) l36 c36 k36
  have B36 := F36.binds (ps := ["_law_prime_here", "_law_sums_here"]) fun _ _ _ _ _ _ us hl => match us, hl with | [_, _], _ => rfl
  have F37 := fun_mk (st := st_law_added) l37 c37 k37
  have B37 := F37.binds (ps := ["_law_prime_here", "_law_sums_here", "_law_values", "_law_width"]) fun _ _ _ _ _ _ us hl => match us, hl with | [_, _, _, _], _ => rfl
  have F38 := fun_mk (st := st_law) l38 c38 k38
  refine ⟨PySem.W.fnOf "law" "law" (defArgs st_law) (defBody st_law) (defScope st_law) .none kV38 dc38 pm38 an38 cd38 ct38, fun s v => .of_eq rfl, fun base _ _ => ?_⟩
  have K_law_hand : Ks l.prog w K mg base "_law_hand" 1 ["_law_script"] (l_law_hand A) := ⟨_, _, PySem.W.mg_of X G a0, k0, B0, d_law_hand (P := l.prog) (w := w) (base := base) T  F0⟩
  have K_law_draw : Kn l.prog w K mg base "_law_draw" 1 ["_law_hand_here", "_law_many"] (l_law_draw A) := ⟨_, _, PySem.W.mg_of X G a1, k1, B1, d_law_draw (P := l.prog) (w := w) (base := base) T  F1⟩
  have K_law_any : Kn l.prog w K mg base "_law_any" 2 ["_law_hand_here", "_law_some"] (l_law_any A) := ⟨_, _, PySem.W.mg_of X G a2, k2, B2, d_law_any (P := l.prog) (w := w) (base := base) T K_law_draw F2⟩
  have K_law_prime : Kn l.prog w K mg base "_law_prime" 3 ["_law_hand_here"] (l_law_prime A) := ⟨_, _, PySem.W.mg_of X G a3, k3, B3, d_law_prime (P := l.prog) (w := w) (base := base) T K_law_any F3⟩
  have K_law_mixed : Kn l.prog w K mg base "_law_mixed" 3 ["_law_hand_here", "_law_prime_here", "_law_sums_here"] (l_law_mixed A) := ⟨_, _, PySem.W.mg_of X G a4, k4, B4, d_law_mixed (P := l.prog) (w := w) (base := base) T K_law_draw K_law_any F4⟩
  have K_law_sum : Kn l.prog w K mg base "_law_sum" 2 ["_law_hand_here", "_law_prime_here", "_law_width"] (l_law_sum A) := ⟨_, _, PySem.W.mg_of X G a5, k5, B5, d_law_sum (P := l.prog) (w := w) (base := base) T K_law_draw F5⟩
  have K_law_sums : Kn l.prog w K mg base "_law_sums" 4 ["_law_hand_here", "_law_prime_here", "_law_width", "_law_most"] (l_law_sums A) := ⟨_, _, PySem.W.mg_of X G a6, k6, B6, d_law_sums (P := l.prog) (w := w) (base := base) T K_law_draw K_law_mixed K_law_sum F6⟩
  have K_is_integer : Kn l.prog w K mg base "is_integer" 1 ["thing"] (l_is_integer A) := ⟨_, _, PySem.W.mg_of X G a7, k7, B7, d_is_integer (P := l.prog) (w := w) (base := base) T  F7⟩
  have K_is_within : Kn l.prog w K mg base "is_within" 2 ["thing", "least", "most"] (l_is_within A) := ⟨_, _, PySem.W.mg_of X G a8, k8, B8, d_is_within (P := l.prog) (w := w) (base := base) T K_is_integer F8⟩
  have K_is_prime : Kn l.prog w K mg base "is_prime" 3 ["thing"] (l_is_prime A) := ⟨_, _, PySem.W.mg_of X G a9, k9, B9, d_is_prime (P := l.prog) (w := w) (base := base) T K_is_within F9⟩
  have K_check_prime : Kn l.prog w K mg base "check_prime" 4 ["prime"] (l_check_prime A) := ⟨_, _, PySem.W.mg_of X G a10, k10, B10, d_check_prime (P := l.prog) (w := w) (base := base) T K_is_prime F10⟩
  have K_is_sum : Kn l.prog w K mg base "is_sum" 3 ["prime", "thing"] (l_is_sum A) := ⟨_, _, PySem.W.mg_of X G a11, k11, B11, d_is_sum (P := l.prog) (w := w) (base := base) T K_is_within F11⟩
  have K_are_sums : Kn l.prog w K mg base "are_sums" 4 ["prime", "thing"] (l_are_sums A) := ⟨_, _, PySem.W.mg_of X G a12, k12, B12, d_are_sums (P := l.prog) (w := w) (base := base) T K_is_sum F12⟩
  have K_check_sums : Kn l.prog w K mg base "check_sums" 5 ["prime", "sums"] (l_check_sums A) := ⟨_, _, PySem.W.mg_of X G a13, k13, B13, d_check_sums (P := l.prog) (w := w) (base := base) T K_check_prime K_are_sums F13⟩
  have K_Steps_init : Kc l.prog w K mg base "Steps" (A "Steps") 1 ["self", "prime"] (l_Steps_init A) := ⟨_, _, ⟨mkC0, a14, i14, kcC0⟩, PySem.W.mg_of X G aCC0, B14, d_Steps_init (P := l.prog) (w := w) (base := base) T  F14⟩
  have K_less_times : Kn l.prog w K mg base "less_times" 1 ["prime", "row", "times", "other"] (l_less_times A) := ⟨_, _, PySem.W.mg_of X G a15, k15, B15, d_less_times (P := l.prog) (w := w) (base := base) T  F15⟩
  have K_Steps_fallen : Km l.prog w K mg base (A "Steps") "fallen" 2 ["self", "row", "made"] (l_Steps_fallen A) := ⟨_, _, ⟨a16, i16, k16⟩, B16, d_Steps_fallen (P := l.prog) (w := w) (base := base) T K_less_times F16⟩
  have K_first_place : Kn l.prog w K mg base "first_place" 1 ["row"] (l_first_place A) := ⟨_, _, PySem.W.mg_of X G a17, k17, B17, d_first_place (P := l.prog) (w := w) (base := base) T  F17⟩
  have K_inverse : Kn l.prog w K mg base "inverse" 1 ["prime", "value"] (l_inverse A) := ⟨_, _, PySem.W.mg_of X G a18, k18, B18, d_inverse (P := l.prog) (w := w) (base := base) T  F18⟩
  have K_Steps_cleared : Km l.prog w K mg base (A "Steps") "cleared" 2 ["self", "pair", "place", "left", "made"] (l_Steps_cleared A) := ⟨_, _, ⟨a19, i19, k19⟩, B19, d_Steps_cleared (P := l.prog) (w := w) (base := base) T K_less_times F19⟩
  have K_Steps_take : Km l.prog w K mg base (A "Steps") "take" 3 ["self", "name", "row"] (l_Steps_take A) := ⟨_, _, ⟨a20, i20, k20⟩, B20, d_Steps_take (P := l.prog) (w := w) (base := base) T K_Steps_fallen K_first_place K_inverse K_Steps_cleared F20⟩
  have K_steps_of : Kn l.prog w K mg base "steps_of" 4 ["prime", "sums"] (l_steps_of A) := ⟨_, _, PySem.W.mg_of X G a21, k21, B21, d_steps_of (P := l.prog) (w := w) (base := base) T K_Steps_init K_Steps_take F21⟩
  have K_ladder_of : Kn l.prog w K mg base "ladder_of" 5 ["prime", "sums"] (l_ladder_of A) := ⟨_, _, PySem.W.mg_of X G a22, k22, B22, d_ladder_of (P := l.prog) (w := w) (base := base) T K_steps_of F22⟩
  have K_ladder : Kn l.prog w K mg base "ladder" 6 ["prime", "sums"] (l_ladder A) := ⟨_, _, PySem.W.mg_of X G a23, k23, B23, d_ladder (P := l.prog) (w := w) (base := base) T K_check_sums K_ladder_of F23⟩
  have K_law_times : Kn l.prog w K mg base "_law_times" 1 ["_law_prime_here", "_law_row", "_law_times_here", "_law_other"] (l_law_times A) := ⟨_, _, PySem.W.mg_of X G a24, k24, B24, d_law_times (P := l.prog) (w := w) (base := base) T  F24⟩
  have K_law_fallen : Kn l.prog w K mg base "_law_fallen" 2 ["_law_prime_here", "_law_steps", "_law_row"] (l_law_fallen A) := ⟨_, _, PySem.W.mg_of X G a25, k25, B25, d_law_fallen (P := l.prog) (w := w) (base := base) T K_law_times F25⟩
  have K_law_inverse : Kn l.prog w K mg base "_law_inverse" 1 ["_law_prime_here", "_law_value"] (l_law_inverse A) := ⟨_, _, PySem.W.mg_of X G a26, k26, B26, d_law_inverse (P := l.prog) (w := w) (base := base) T  F26⟩
  have K_law_taken : Kn l.prog w K mg base "_law_taken" 3 ["_law_prime_here", "_law_sums_here"] (l_law_taken A) := ⟨_, _, PySem.W.mg_of X G a27, k27, B27, d_law_taken (P := l.prog) (w := w) (base := base) T K_law_fallen K_law_inverse F27⟩
  have K_law_ladder : Kn l.prog w K mg base "_law_ladder" 4 ["_law_prime_here", "_law_sums_here"] (l_law_ladder A) := ⟨_, _, PySem.W.mg_of X G a28, k28, B28, d_law_ladder (P := l.prog) (w := w) (base := base) T K_law_taken K_law_times F28⟩
  have K_law_turned : Kn l.prog w K mg base "_law_turned" 2 ["_law_hand_here", "_law_things"] (l_law_turned A) := ⟨_, _, PySem.W.mg_of X G a29, k29, B29, d_law_turned (P := l.prog) (w := w) (base := base) T K_law_draw F29⟩
  have K_law_others : Kn l.prog w K mg base "_law_others" 5 ["_law_hand_here", "_law_prime_here", "_law_width", "_law_sums_here"] (l_law_others A) := ⟨_, _, PySem.W.mg_of X G a30, k30, B30, d_law_others (P := l.prog) (w := w) (base := base) T K_law_draw K_law_turned K_law_times K_law_sums K_law_sum K_law_ladder F30⟩
  have K_alike : Kn l.prog w K mg base "alike" 6 ["prime", "sums", "others"] (l_alike A) := ⟨_, _, PySem.W.mg_of X G a31, k31, B31, d_alike (P := l.prog) (w := w) (base := base) T K_check_sums K_are_sums K_ladder_of F31⟩
  have K_Steps_is_made : Km l.prog w K mg base (A "Steps") "is_made" 3 ["self", "row"] (l_Steps_is_made A) := ⟨_, _, ⟨a32, i32, k32⟩, B32, d_Steps_is_made (P := l.prog) (w := w) (base := base) T K_first_place K_Steps_fallen F32⟩
  have K_Steps_made_by : Km l.prog w K mg base (A "Steps") "made_by" 3 ["self", "row"] (l_Steps_made_by A) := ⟨_, _, ⟨a33, i33, k33⟩, B33, d_Steps_made_by (P := l.prog) (w := w) (base := base) T K_Steps_fallen K_first_place F33⟩
  have K_nought : Kn l.prog w K mg base "nought" 6 ["prime", "sums"] (l_nought A) := ⟨_, _, PySem.W.mg_of X G a34, k34, B34, d_nought (P := l.prog) (w := w) (base := base) T K_check_sums K_Steps_init K_Steps_is_made K_Steps_made_by K_Steps_take F34⟩
  have K_law_made : Kn l.prog w K mg base "_law_made" 4 ["_law_prime_here", "_law_sums_here", "_law_thing"] (l_law_made A) := ⟨_, _, PySem.W.mg_of X G a35, k35, B35, d_law_made (P := l.prog) (w := w) (base := base) T K_law_taken K_law_inverse K_law_times F35⟩
  have K_law_nought : Kn l.prog w K mg base "_law_nought" 5 ["_law_prime_here", "_law_sums_here"] (l_law_nought A) := ⟨_, _, PySem.W.mg_of X G a36, k36, B36, d_law_nought (P := l.prog) (w := w) (base := base) T K_law_taken K_law_made F36⟩
  have K_law_added : Kn l.prog w K mg base "_law_added" 2 ["_law_prime_here", "_law_sums_here", "_law_values", "_law_width"] (l_law_added A) := ⟨_, _, PySem.W.mg_of X G a37, k37, B37, d_law_added (P := l.prog) (w := w) (base := base) T K_law_times F37⟩
  refine FnOk.imp (d_law (P := l.prog) (w := w) (base := base) T K_law_hand K_law_any K_law_prime K_law_sums K_ladder K_law_ladder K_law_others K_alike K_nought K_law_nought K_law_added F38) fun vs H Q E ⟨a, ns, e1, e2, e3, q⟩ => ⟨a, ns, [], [], e1, e3, e2, rs_nil, ?_⟩
  obtain ⟨s, hs⟩ := law_true A ns e3 a
  exact pf_true hs q
theorem walk {l : PySem.W.OpenLaw} {q : Program} {loose : List Str} {XP : (Str → Option Value) → Heap → Prop} {YP : World → Heap → Prop} {d : DefRec} {K : Params → PySem.W.Frag} (hn : l.most = some 63) (hdf : d.params.defaults = [])
    (hY : ∀ (w : World) (h : Heap), YP w h → (K w.params).In h)
    (F : ∀ (w : World) (mg : Str → Option Value) (fa : Addr) (h : Heap), (K w.params).In h → h.Ns mainGlobals mg → mg d.name = some (.ref fa) →
      ∃ fd : FuncData, (∀ (s : Shared) (u : Value), BindsTo s fd ⟨[u], []⟩ [("_law_script", u)]) ∧ ∀ base : Heap, (K w.params).In base → base.Ns mainGlobals mg → FnOk l.prog w (K w.params) mg base (L2.CX l.prog w) 7 fa fd ["_law_script"] (spLaw (K w.params))) :
    PySem.W.WalkO q loose XP YP l.row.toRowW d [] (fun f vs => PySem.call f vs) :=
  L2.walk_of (n := 63) (k := 7) (x := "_law_script") (CX := fun w => L2.CX l.prog w) (sp := fun w => spLaw (K w.params)) hn (by decide) hdf ⟨rfl, by decide, by decide⟩ hY F (fun _ _ a ns hl _ hS => ⟨a, ns, rfl, hS, hl, fun _ => rfl⟩) fun _ _ _ _ _ z => cx_none z
end M03
open PySem PySem.W PyProof.Rows in
set_option maxRecDepth 100000 in
set_option maxHeartbeats 0 in
theorem PySem.Challenge.cw_lightfirst_k03_whole_ladders_and_noughts_holds : PySem.Challenge.rw_lightfirst_k03_whole_ladders_and_noughts.Holds := by
  w_on; o_law; k_head; (case hw => w_witness2)
  k_fill
  refine M03.walk (l := PySem.Challenge.rw_lightfirst_k03_whole_ladders_and_noughts) rfl rfl (fun w h Y => PySem.W.kIn_of Y) ?F
  case F =>
    intro w mg fa h KX G hmg
    refine' M03.all_mk KX G hmg ?aCC0 ?a0 ?l0 ?c0 ?k0 ?a1 ?l1 ?c1 ?k1 ?a2 ?l2 ?c2 ?k2 ?a3 ?l3 ?c3 ?k3 ?a4 ?l4 ?c4 ?k4 ?a5 ?l5 ?c5 ?k5 ?a6 ?l6 ?c6 ?k6 ?a7 ?l7 ?c7 ?k7 ?a8 ?l8 ?c8 ?k8 ?a9 ?l9 ?c9 ?k9 ?a10 ?l10 ?c10 ?k10 ?a11 ?l11 ?c11 ?k11 ?a12 ?l12 ?c12 ?k12 ?a13 ?l13 ?c13 ?k13 ?a14 ?i14 ?l14 ?c14 ?k14 ?a15 ?l15 ?c15 ?k15 ?a16 ?i16 ?l16 ?c16 ?k16 ?a17 ?l17 ?c17 ?k17 ?a18 ?l18 ?c18 ?k18 ?a19 ?i19 ?l19 ?c19 ?k19 ?a20 ?i20 ?l20 ?c20 ?k20 ?a21 ?l21 ?c21 ?k21 ?a22 ?l22 ?c22 ?k22 ?a23 ?l23 ?c23 ?k23 ?a24 ?l24 ?c24 ?k24 ?a25 ?l25 ?c25 ?k25 ?a26 ?l26 ?c26 ?k26 ?a27 ?l27 ?c27 ?k27 ?a28 ?l28 ?c28 ?k28 ?a29 ?l29 ?c29 ?k29 ?a30 ?l30 ?c30 ?k30 ?a31 ?l31 ?c31 ?k31 ?a32 ?i32 ?l32 ?c32 ?k32 ?a33 ?i33 ?l33 ?c33 ?k33 ?a34 ?l34 ?c34 ?k34 ?a35 ?l35 ?c35 ?k35 ?a36 ?l36 ?c36 ?k36 ?a37 ?l37 ?c37 ?k37 ?a38 ?l38 ?c38 ?k38 ?pgC0 ?hdC0 ?poC0 ?saC0 ?mkC0 ?kcC0 ?nC0_kept_prime ?nC0_kept_rows ?z_abs ?z_int ?z_len ?z_any ?z_range ?z_tuple ?z_zip ?z_bool ?z_isinstance ?z_all ?v_LEAST_PRIME ?v_MOST_PRIME ?v_MOST_WIDTH ?v_MOST_SUMS ?z_dict ?z_list ?z_sorted ?z_enumerate ?z_set
    (case aCC0 => k_is)
    (case a0 => k_is)
    (case l0 => k_is)
    (case c0 => k_is)
    (case k0 => k_is)
    (case a1 => k_is)
    (case l1 => k_is)
    (case c1 => k_is)
    (case k1 => k_is)
    (case a2 => k_is)
    (case l2 => k_is)
    (case c2 => k_is)
    (case k2 => k_is)
    (case a3 => k_is)
    (case l3 => k_is)
    (case c3 => k_is)
    (case k3 => k_is)
    (case a4 => k_is)
    (case l4 => k_is)
    (case c4 => k_is)
    (case k4 => k_is)
    (case a5 => k_is)
    (case l5 => k_is)
    (case c5 => k_is)
    (case k5 => k_is)
    (case a6 => k_is)
    (case l6 => k_is)
    (case c6 => k_is)
    (case k6 => k_is)
    (case a7 => k_is)
    (case l7 => k_is)
    (case c7 => k_is)
    (case k7 => k_is)
    (case a8 => k_is)
    (case l8 => k_is)
    (case c8 => k_is)
    (case k8 => k_is)
    (case a9 => k_is)
    (case l9 => k_is)
    (case c9 => k_is)
    (case k9 => k_is)
    (case a10 => k_is)
    (case l10 => k_is)
    (case c10 => k_is)
    (case k10 => k_is)
    (case a11 => k_is)
    (case l11 => k_is)
    (case c11 => k_is)
    (case k11 => k_is)
    (case a12 => k_is)
    (case l12 => k_is)
    (case c12 => k_is)
    (case k12 => k_is)
    (case a13 => k_is)
    (case l13 => k_is)
    (case c13 => k_is)
    (case k13 => k_is)
    (case a14 => k_is)
    (case i14 => k_is)
    (case l14 => k_is)
    (case c14 => k_is)
    (case k14 => k_is)
    (case a15 => k_is)
    (case l15 => k_is)
    (case c15 => k_is)
    (case k15 => k_is)
    (case a16 => k_is)
    (case i16 => k_is)
    (case l16 => k_is)
    (case c16 => k_is)
    (case k16 => k_is)
    (case a17 => k_is)
    (case l17 => k_is)
    (case c17 => k_is)
    (case k17 => k_is)
    (case a18 => k_is)
    (case l18 => k_is)
    (case c18 => k_is)
    (case k18 => k_is)
    (case a19 => k_is)
    (case i19 => k_is)
    (case l19 => k_is)
    (case c19 => k_is)
    (case k19 => k_is)
    (case a20 => k_is)
    (case i20 => k_is)
    (case l20 => k_is)
    (case c20 => k_is)
    (case k20 => k_is)
    (case a21 => k_is)
    (case l21 => k_is)
    (case c21 => k_is)
    (case k21 => k_is)
    (case a22 => k_is)
    (case l22 => k_is)
    (case c22 => k_is)
    (case k22 => k_is)
    (case a23 => k_is)
    (case l23 => k_is)
    (case c23 => k_is)
    (case k23 => k_is)
    (case a24 => k_is)
    (case l24 => k_is)
    (case c24 => k_is)
    (case k24 => k_is)
    (case a25 => k_is)
    (case l25 => k_is)
    (case c25 => k_is)
    (case k25 => k_is)
    (case a26 => k_is)
    (case l26 => k_is)
    (case c26 => k_is)
    (case k26 => k_is)
    (case a27 => k_is)
    (case l27 => k_is)
    (case c27 => k_is)
    (case k27 => k_is)
    (case a28 => k_is)
    (case l28 => k_is)
    (case c28 => k_is)
    (case k28 => k_is)
    (case a29 => k_is)
    (case l29 => k_is)
    (case c29 => k_is)
    (case k29 => k_is)
    (case a30 => k_is)
    (case l30 => k_is)
    (case c30 => k_is)
    (case k30 => k_is)
    (case a31 => k_is)
    (case l31 => k_is)
    (case c31 => k_is)
    (case k31 => k_is)
    (case a32 => k_is)
    (case i32 => k_is)
    (case l32 => k_is)
    (case c32 => k_is)
    (case k32 => k_is)
    (case a33 => k_is)
    (case i33 => k_is)
    (case l33 => k_is)
    (case c33 => k_is)
    (case k33 => k_is)
    (case a34 => k_is)
    (case l34 => k_is)
    (case c34 => k_is)
    (case k34 => k_is)
    (case a35 => k_is)
    (case l35 => k_is)
    (case c35 => k_is)
    (case k35 => k_is)
    (case a36 => k_is)
    (case l36 => k_is)
    (case c36 => k_is)
    (case k36 => k_is)
    (case a37 => k_is)
    (case l37 => k_is)
    (case c37 => k_is)
    (case k37 => k_is)
    (case a38 => k_is)
    (case l38 => k_is)
    (case c38 => k_is)
    (case k38 => k_is)
    (case pgC0 => k_is)
    (case hdC0 => k_is)
    (case poC0 => k_is)
    (case saC0 => k_is)
    (case mkC0 => k_is)
    (case kcC0 => k_is)
    (case nC0_kept_prime => k_is)
    (case nC0_kept_rows => k_is)
    (case z_abs => k_is)
    (case z_int => k_is)
    (case z_len => k_is)
    (case z_any => k_is)
    (case z_range => k_is)
    (case z_tuple => k_is)
    (case z_zip => k_is)
    (case z_bool => k_is)
    (case z_isinstance => k_is)
    (case z_all => k_is)
    (case v_LEAST_PRIME => k_is)
    (case v_MOST_PRIME => k_is)
    (case v_MOST_WIDTH => k_is)
    (case v_MOST_SUMS => k_is)
    (case z_dict => k_is)
    (case z_list => k_is)
    (case z_sorted => k_is)
    (case z_enumerate => k_is)
    (case z_set => k_is)
