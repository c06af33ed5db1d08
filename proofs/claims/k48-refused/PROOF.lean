import PyProof.Rows.All
import Wide.All
import OpenK.AllK
import Wide.FinOn
import HandS.ForMost
import HandS.ForExc
import HandS.CallSlots
import HandS.Lambda
import HandS.IsInst
import HandS.TupMul
import HandS.TupAny
import HandS.Conv
import HandS.Flow
import HandS.WideMore
import HandS.Deep
import HandS.TupLe
import HandS.SortInts
import HandS.DictComp
import KE.GoesEnum
import KE.GoesMore
import KE.GoesZip
import PyProof.EnumMake
import HandS.WordsExc
import KE.KSortTup
import HandS.SortRule
import HandS.SetFor
import HandS.Strs
import KE.DataAny
import HandS.Style
import HandS.ExcIs
import KE.SortKeyHeap
import KE.SortKeyed
import KE.SortData
import HandS.RepeatKit
import KE.KDictItemsList
import KE.KMathGC
import KE.KDictZip
import KE.KEqDict
import KE.DataFind
import HandS.More
import KE.KNestM
import KE.KLam
import HandS.EndTab
import PySem.Challenge.RW_lightfirst_k48_disks_refused
set_option Elab.async false
set_option linter.all false
/-! ### DL1 -/
section
set_option linter.all false
set_option maxRecDepth 100000
/-! DL1: data, the store, how they lie in the hand layer's heap; results; readings made of results. -/
namespace DL
open PySem PySem.Spec L2
open PyProof.Rows hiding St

/-- data: tuples as trees; what may change by its place in the store; con: a constant of the text (a def, a class) -/
inductive D where
  | non | bl (b : Bool) | int (i : Int) | str (x : Str) | tup (xs : List D) | loc (n : Nat) | con (v : V)
/-- what stands in the store -/
inductive Ob where
  | lst (xs : List D)
  | dct (kvs : List (Key × D))
  | lok (kvs : List (Key × D))
  | ins (C : Addr) (fs : List (Str × D))
abbrev Sto := List Ob
abbrev Env := List (Option D)
/-- an exception: its class, its fields -/
structure Exn where
  cls : Addr
  fs : Option (List (Str × D))

mutual
inductive RD (K : PySem.W.Frag) (p : List Addr) (H : Hp) : D → V → Prop
  | non : RD K p H .non .non
  | bl (b : Bool) : RD K p H (.bl b) (.bl b)
  | int (i : Int) : RD K p H (.int i) (.int i)
  | str (x : Str) : RD K p H (.str x) (.str x)
  | tup {ds : List D} {a : Addr} {vs : List V} (h : SqT K H a vs) (r : RDs K p H ds vs) : RD K p H (.tup ds) (.ref a)
  | loc {n : Nat} {a : Addr} (h : p[n]? = some a) : RD K p H (.loc n) (.ref a)
  | con (v : V) : RD K p H (.con v) v
inductive RDs (K : PySem.W.Frag) (p : List Addr) (H : Hp) : List D → List V → Prop
  | nil : RDs K p H [] []
  | cons {d : D} {v : V} {ds : List D} {vs : List V} (h : RD K p H d v) (r : RDs K p H ds vs) : RDs K p H (d :: ds) (v :: vs)
end

/-- the tables of code objects that stand beside the store -/
class Tbs where
  T : List (Addr × Str)
  /-- code objects that are known -/
  C : List (Addr × Str) := []
  /-- the places and the heap that all goes on from -/
  p0 : List Addr := []
  H0 : Hp := fun _ => none
instance (priority := low) tbs0 : Tbs := { T := [] }
/-- no table -/
def NTb : HO → Prop
  | .tbl _ => False
  | _ => True
/-- the heap goes on: places stay, tuples stay, what stands beside the store stays; new places were free -/
structure Ex (p : List Addr) (H : Hp) (p' : List Addr) (H' : Hp) : Prop where
  pre : ∃ q, p' = p ++ q
  tup : ∀ a xs, Rd H a (.tup xs) → Rd H' a (.tup xs)
  fr : ∀ a o, H a = some o → a ∉ p → NTb o → H' a = some o
  nw : ∀ a, a ∈ p' → a ∉ p → ∀ o, H a = some o → NTb o → False
  fz : ∀ a o u, H a = some (.frz o u) → H' a = some (.frz o u)
/-- .. what data lean on -/
structure Ex0 (p : List Addr) (H : Hp) (p' : List Addr) (H' : Hp) : Prop where
  pre : ∃ q, p' = p ++ q
  tup : ∀ a xs, Rd H a (.tup xs) → Rd H' a (.tup xs)
theorem Ex0.refl {p : List Addr} {H : Hp} : Ex0 p H p H := ⟨⟨[], by simp⟩, fun _ _ h => h⟩
theorem Ex0.trans {p p1 p2 : List Addr} {H H1 H2 : Hp} (a : Ex0 p H p1 H1) (b : Ex0 p1 H1 p2 H2) : Ex0 p H p2 H2 := by
  obtain ⟨⟨q, rfl⟩, h1⟩ := a
  obtain ⟨⟨q2, rfl⟩, h2⟩ := b
  exact ⟨⟨q ++ q2, by simp⟩, fun x xs h => h2 x xs (h1 x xs h)⟩
theorem Ex.e0 {p p' : List Addr} {H H' : Hp} (e : Ex p H p' H') : Ex0 p H p' H' := ⟨e.pre, e.tup⟩
theorem Ex.refl {p : List Addr} {H : Hp} : Ex p H p H := ⟨⟨[], by simp⟩, fun _ _ h => h, fun _ _ h _ _ => h, fun _ h n => absurd h n, fun _ _ _ h => h⟩
theorem Ex.trans {p p1 p2 : List Addr} {H H1 H2 : Hp} (a : Ex p H p1 H1) (b : Ex p1 H1 p2 H2) : Ex p H p2 H2 := by
  refine ⟨?_, fun x xs h => b.tup x xs (a.tup x xs h), fun x o h n t => b.fr x o (a.fr x o h n t) (fun hm => a.nw x hm n o h t) t, fun x hx n o h t => ?_, fun x o u h => b.fz x o u (a.fz x o u h)⟩
  · obtain ⟨q, rfl⟩ := a.pre
    obtain ⟨q2, rfl⟩ := b.pre
    exact ⟨q ++ q2, by simp⟩
  · by_cases h1 : x ∈ p1
    · exact a.nw x h1 n o h t
    · exact b.nw x hx h1 o (a.fr x o h n t) t
theorem Ex0.get {p p' : List Addr} {H H' : Hp} (e : Ex0 p H p' H') {n : Nat} {a : Addr} (h : p[n]? = some a) : p'[n]? = some a := by
  obtain ⟨q, rfl⟩ := e.pre
  have hn : n < p.length := (List.getElem?_eq_some_iff.mp h).1
  rw [List.getElem?_append_left hn]; exact h
theorem Ex0.sqt {K : PySem.W.Frag} {p p' : List Addr} {H H' : Hp} (e : Ex0 p H p' H') {a : Addr} {vs : List V} (h : SqT K H a vs) : SqT K H' a vs := by
  rcases h with h | h
  · exact .inl (e.tup _ _ h)
  · exact .inr h

section
variable {K : PySem.W.Frag} {p p' : List Addr} {H H' : Hp}
mutual
theorem RD.mono0 (e : Ex0 p H p' H') : ∀ {d : D} {v : V}, RD K p H d v → RD K p' H' d v
  | _, _, .non => .non
  | _, _, .bl b => .bl b
  | _, _, .int i => .int i
  | _, _, .str x => .str x
  | _, _, .tup h r => .tup (e.sqt h) (RDs.mono0 e r)
  | _, _, .loc h => .loc (e.get h)
  | _, _, .con v => .con v
theorem RDs.mono0 (e : Ex0 p H p' H') : ∀ {ds : List D} {vs : List V}, RDs K p H ds vs → RDs K p' H' ds vs
  | _, _, .nil => .nil
  | _, _, .cons h r =>  .cons (RD.mono0 e h) (RDs.mono0 e r)
end
theorem Ex.get {n : Nat} {a : Addr} (e : Ex p H p' H') (h : p[n]? = some a) : p'[n]? = some a := e.e0.get h
theorem Ex.sqt {a : Addr} {vs : List V} (e : Ex p H p' H') (h : SqT K H a vs) : SqT K H' a vs := e.e0.sqt h
theorem RD.mono (e : Ex p H p' H') {d : D} {v : V} (h : RD K p H d v) : RD K p' H' d v := RD.mono0 e.e0 h
theorem RDs.mono (e : Ex p H p' H') {d : List D} {v : List V} (h : RDs K p H d v) : RDs K p' H' d v := RDs.mono0 e.e0 h
theorem RDs.length : ∀ {ds : List D} {vs : List V}, RDs K p H ds vs → ds.length = vs.length
  | _, _, .nil => rfl
  | _, _, .cons _ r => by simp [RDs.length r]
theorem RDs.get : ∀ {ds : List D} {vs : List V} {i : Nat} {d : D}, RDs K p H ds vs → ds[i]? = some d → ∃ v, vs[i]? = some v ∧ RD K p H d v
  | _, _, _, _, .nil, e => by simp at e
  | _, _, 0, d, .cons h _, e => ⟨_, rfl, by simp at e; rw [← e]; exact h⟩
  | _, _, i + 1, d, .cons _ r, e => by
    obtain ⟨v, h1, h2⟩ := RDs.get (i := i) (d := d) r (by simpa using e)
    exact ⟨v, by simpa using h1, h2⟩
theorem RDs.append : ∀ {ds es : List D} {vs us : List V}, RDs K p H ds vs → RDs K p H es us → RDs K p H (ds ++ es) (vs ++ us)
  | _, _, _, _, .nil, s => s
  | _, _, _, _, .cons h r, s => .cons h (RDs.append r s)
theorem RDs.set : ∀ {ds : List D} {vs : List V} (i : Nat) {d : D} {v : V}, RDs K p H ds vs → RD K p H d v → RDs K p H (ds.set i d) (vs.set i v)
  | _, _, _, _, _, .nil, _ => .nil
  | _, _, 0, _, _, .cons _ r, h => .cons h r
  | _, _, i + 1, _, _, .cons q r, h => .cons q (RDs.set i r h)
theorem RDs.take : ∀ {ds : List D} {vs : List V} (n : Nat), RDs K p H ds vs → RDs K p H (ds.take n) (vs.take n)
  | _, _, 0, _ => by simp; exact .nil
  | _, _, _ + 1, .nil => .nil
  | _, _, n + 1, .cons h r => .cons h (RDs.take n r)
theorem RDs.drop : ∀ {ds : List D} {vs : List V} (n : Nat), RDs K p H ds vs → RDs K p H (ds.drop n) (vs.drop n)
  | _, _, 0, r => r
  | _, _, _ + 1, .nil => .nil
  | _, _, n + 1, .cons _ r => RDs.drop n r
theorem RDs.reverse {ds : List D} {vs : List V} (r : RDs K p H ds vs) : RDs K p H ds.reverse vs.reverse := by
  induction ds generalizing vs with
  | nil => cases r; exact .nil
  | cons d ds ih =>
    cases r with
    | cons h r => simp only [List.reverse_cons]; exact RDs.append (ih r) (.cons h .nil)
theorem RDs.ints : ∀ {ns : List Int} {vs : List V}, RDs K p H (ns.map .int) vs → vs = ns.map .int
  | [], _, .nil => rfl
  | n :: ns, _, .cons h r => by cases h; rw [RDs.ints r]; rfl
theorem RDs.of_ints : ∀ (ns : List Int), RDs K p H (ns.map .int) (ns.map .int)
  | [] => .nil
  | n :: ns => .cons (.int n) (RDs.of_ints ns)
theorem RDs.bls : ∀ {ns : List Bool} {vs : List V}, RDs K p H (ns.map .bl) vs → vs = ns.map .bl
  | [], _, .nil => rfl
  | n :: ns, _, .cons h r => by cases h; rw [RDs.bls r]; rfl
end

/-- fields, entries -/
def RF (K : PySem.W.Frag) (p : List Addr) (H : Hp) {κ : Type} : List (κ × D) → List (κ × V) → Prop := Paired fun a b => a.1 = b.1 ∧ RD K p H a.2 b.2
/-- what is known of an own class whose instances stand in the store: isinstance of a built-in type says no -/
structure OwnC (K : PySem.W.Frag) (C : Addr) : Prop where
  cl : Cls K C
  ha : PySem.W.findIn K (.ref C) "__class__" = some (some (.builtin "object.__class__"))
  hn : PySem.W.specialIn K (.builtin "object.__class__") "__get__" = some (some (.builtin "getset_descriptor.__get__"))
  ht : PySem.W.takesIn K (.builtin "object.__class__") = some true
  hm : PySem.W.mroIn K C (.type "object") = some true
  kt : PySem.W.kitOne K (.ref C) (.type "tuple") = some false
  ki : PySem.W.kitOne K (.ref C) (.type "int") = some false
  kb : PySem.W.kitOne K (.ref C) (.type "bool") = some false
  kl : PySem.W.kitOne K (.ref C) (.type "list") = some false
  kd : PySem.W.kitOne K (.ref C) (.type "dict") = some false
  ks : PySem.W.kitOne K (.ref C) (.type "str") = some false
inductive RO (K : PySem.W.Frag) (p : List Addr) (H : Hp) : Ob → HO → Prop
  | lst {ds : List D} {vs : List V} (r : RDs K p H ds vs) : RO K p H (.lst ds) (.lst vs)
  | dct {ds : List (Key × D)} {vs : List (Key × V)} (r : RF K p H ds vs) : RO K p H (.dct ds) (.dK vs)
  | lok {ds : List (Key × D)} {vs : List (Key × V)} {o : Obj} (r : RF K p H ds vs) : RO K p H (.lok ds) (.frz o (.dK vs))
  | ins {C dx : Addr} {ds : List (Str × D)} {vs : List (Str × V)} (q : OwnC K C) (r : RF K p H ds vs) : RO K p H (.ins C ds) (.ins C dx vs)
section
variable {K : PySem.W.Frag} {p p' : List Addr} {H H' : Hp}
theorem RF.mono0 {κ : Type} {ds : List (κ × D)} {vs : List (κ × V)} (e : Ex0 p H p' H') (r : RF K p H ds vs) : RF K p' H' ds vs := Paired.mapP r fun _ _ q => ⟨q.1, q.2.mono0 e⟩
theorem RF.mono {κ : Type} {ds : List (κ × D)} {vs : List (κ × V)} (e : Ex p H p' H') (r : RF K p H ds vs) : RF K p' H' ds vs := r.mono0 e.e0
theorem RF.length {κ : Type} {ds : List (κ × D)} {vs : List (κ × V)} (r : RF K p H ds vs) : ds.length = vs.length := Paired.length r
theorem RO.mono0 {ob : Ob} {o : HO} (e : Ex0 p H p' H') (r : RO K p H ob o) : RO K p' H' ob o := by
  cases r with
  | lst r => exact .lst (r.mono0 e)
  | dct r => exact .dct (r.mono0 e)
  | lok r => exact .lok (r.mono0 e)
  | ins q r => exact .ins q (r.mono0 e)
theorem RO.mono {ob : Ob} {o : HO} (e : Ex p H p' H') (r : RO K p H ob o) : RO K p' H' ob o := r.mono0 e.e0
theorem RF.lookup {κ : Type} [BEq κ] [LawfulBEq κ] {k : κ} : ∀ {ds : List (κ × D)} {vs : List (κ × V)} {d : D}, RF K p H ds vs → ds.lookup k = some d → ∃ v, vs.lookup k = some v ∧ RD K p H d v
  | _, _, _, .nil, e => by simp at e
  | (k1, d1) :: ds, (k2, v2) :: vs, d, .cons q r, e => by
    obtain ⟨q1, q2⟩ := q
    dsimp only at q1 q2
    subst q1
    simp only [List.lookup] at e ⊢
    cases h : k == k1 with
    | true => rw [h] at e; cases e; exact ⟨v2, rfl, q2⟩
    | false => rw [h] at e; exact RF.lookup r e
theorem RF.lookup_none {κ : Type} [BEq κ] [LawfulBEq κ] {k : κ} : ∀ {ds : List (κ × D)} {vs : List (κ × V)}, RF K p H ds vs → ds.lookup k = none → vs.lookup k = none
  | _, _, .nil, e => by simp
  | (k1, d1) :: ds, (k2, v2) :: vs, .cons q r, e => by
    obtain ⟨q1, q2⟩ := q
    dsimp only at q1 q2
    subst q1
    simp only [List.lookup] at e ⊢
    cases h : k == k1 with
    | true => rw [h] at e; cases e
    | false => rw [h] at e; exact RF.lookup_none r e
end

variable [Tbs]
/-- the store lies in the heap at the places p -/
structure RS (K : PySem.W.Frag) (p : List Addr) (s : Sto) (H : Hp) : Prop where
  len : p.length = s.length
  nd : p.Nodup
  ob : ∀ (n : Nat) (ob : Ob) (a : Addr), s[n]? = some ob → p[n]? = some a → ∃ o, H a = some o ∧ RO K p H ob o
  tab : ∀ x ∈ Tbs.T, LamX.TabS H x.1 x.2
  cob : ∀ x ∈ Tbs.C, H x.1 = some (LamX.CodeO x.1 x.2)
  e0 : Ex0 Tbs.p0 Tbs.H0 p H
/-- the slots -/
structure RE (K : PySem.W.Frag) (p : List Addr) (H : Hp) (r : Env) (t : St) : Prop where
  len : r.length = t.length
  at_ : ∀ (i : Nat) (d : D), r[i]? = some (some d) → ∃ v, t[i]? = some (some v) ∧ RD K p H d v
/-- an exception's dict -/
def RX (K : PySem.W.Frag) (p : List Addr) (H : Hp) (e : Exn) (d : Option Addr) : Prop := match e.fs with
  | none => d = none
  | some fs => ∃ a vs, d = some a ∧ H a = some (.xd vs) ∧ RF K p H fs vs
section
variable {K : PySem.W.Frag} {p p' : List Addr} {H H' : Hp} {s : Sto}
theorem RE.mono0 {r : Env} {t : St} (e : Ex0 p H p' H') (h : RE K p H r t) : RE K p' H' r t := ⟨h.len, fun i d q => let ⟨v, a, b⟩ := h.at_ i d q; ⟨v, a, b.mono0 e⟩⟩
theorem RE.mono {r : Env} {t : St} (e : Ex p H p' H') (h : RE K p H r t) : RE K p' H' r t := ⟨h.len, fun i d q => let ⟨v, a, b⟩ := h.at_ i d q; ⟨v, a, b.mono e⟩⟩
theorem RE.set {r : Env} {t : St} {i : Nat} {d : D} {v : V} (h : RE K p H r t) (q : RD K p H d v) : RE K p H (r.set i (some d)) (t.set i (some v)) := by
  refine ⟨by simp [h.len], fun j d' e => ?_⟩
  by_cases hj : i = j
  · subst hj
    have hi : i < r.length := by
      have := (List.getElem?_eq_some_iff.mp e).1
      simpa using this
    rw [List.getElem?_set_self hi] at e
    cases e
    exact ⟨v, by rw [List.getElem?_set_self (by rw [← h.len]; exact hi)], q⟩
  · rw [List.getElem?_set_ne hj] at e ⊢
    exact h.at_ j d' e
theorem RE.unset {r : Env} {t : St} (i : Nat) (h : RE K p H r t) : RE K p H (r.set i none) (t.set i none) := by
  refine ⟨by simp [h.len], fun j d' e => ?_⟩
  by_cases hj : i = j
  · subst hj
    have hi : i < r.length := by
      have := (List.getElem?_eq_some_iff.mp e).1
      simpa using this
    rw [List.getElem?_set_self hi] at e
    cases e
  · rw [List.getElem?_set_ne hj] at e ⊢
    exact h.at_ j d' e
theorem RS.mut {n : Nat} {ob : Ob} (h : RS K p s H) (e : s[n]? = some ob) : ∃ a o, p[n]? = some a ∧ H a = some o ∧ RO K p H ob o := by
  have hn : n < p.length := by rw [h.len]; exact (List.getElem?_eq_some_iff.mp e).1
  obtain ⟨o, h1, h2⟩ := h.ob n ob p[n] e (by simp [hn])
  exact ⟨p[n], o, by simp [hn], h1, h2⟩
theorem RS.fresh (h : RS K p s H) {a : Addr} (e : H a = none) : a ∉ p := by
  intro hm
  obtain ⟨n, hn, rfl⟩ := List.mem_iff_getElem.mp hm
  obtain ⟨o, h1, _⟩ := h.ob n (s[n]'(by rw [← h.len]; exact hn)) p[n] (by simp) (by simp)
  rw [h1] at e; cases e
/-- a tuple's place is no place of what changes -/
def NoTup : HO → Prop
  | .tup _ => False
  | .frz _ _ => False
  | .tbl _ => False
  | .ext _ => False
  | _ => True
/-- .. it may be locked -/
def NoTup0 : HO → Prop
  | .tup _ => False
  | .frz _ (.tup _) => False
  | .tbl _ => False
  | .ext _ => False
  | _ => True
theorem cob_chg {c : Addr} {q : Str} {a : Addr} {o : HO} (h : H c = some (LamX.CodeO c q)) (e : H a = some o) (n : NoTup0 o) (k : ∀ b, b ≠ a → H' b = H b) : H' c = some (LamX.CodeO c q) := by
  have : c ≠ a := by
    rintro rfl
    rw [h] at e
    cases e
    exact n
  rw [k c this]
  exact h
theorem tabS_chg {P : Addr} {q : Str} {a : Addr} {o : HO} (h : LamX.TabS H P q) (e : H a = some o) (n : NoTup0 o) (k : ∀ b, b ≠ a → H' b = H b) : LamX.TabS H' P q := by
  obtain ⟨ps, h1, h2, h3⟩ := h
  refine ⟨ps, ?_, h2, fun pos cv hc => ?_⟩
  · rw [k]
    · exact h1
    · rintro rfl
      rw [e] at h1; cases h1; exact n
  · obtain ⟨c, e1, e2⟩ := h3 pos cv hc
    refine ⟨c, e1, ?_⟩
    rw [k]
    · exact e2
    · rintro rfl
      rw [e] at e2
      cases e2
      exact n
theorem tabS_new {P : Addr} {q : Str} {a : Addr} {o : HO} (h : LamX.TabS H P q) (e : H a = none) : LamX.TabS (upd H a o) P q :=
  h.ext fun b u hb => by rw [upd_ne (ne_of_none hb e)]; exact hb
theorem ex0_upd {a : Addr} {o o' : HO} (e : H a = some o) (n : NoTup0 o) : Ex0 p H p (upd H a o') := by
  refine ⟨⟨[], by simp⟩, fun b xs h => ?_⟩
  have hb : b ≠ a := by
    rintro rfl
    rcases h with h | ⟨u, h⟩
    · rw [e] at h; cases h; exact n
    · rw [e] at h; cases h; exact n
  rcases h with h | ⟨u, h⟩
  · exact .inl (by rw [upd_ne hb]; exact h)
  · exact .inr ⟨u, by rw [upd_ne hb]; exact h⟩
theorem ex_upd {n : Nat} {a : Addr} {o o' : HO} (hp : p[n]? = some a) (e : H a = some o) (n : NoTup o) : Ex p H p (upd H a o') := by
  refine ⟨⟨[], by simp⟩, fun b xs h => ?_, fun b u h hb _ => by
    have : b ≠ a := by
      rintro rfl
      exact hb (List.mem_of_getElem? hp)
    rw [upd_ne this]; exact h, fun _ h n => absurd h n, fun b o2 u h => by
    have : b ≠ a := by
      rintro rfl
      rw [e] at h; cases h; exact n
    rw [upd_ne this]; exact h⟩
  have hb : b ≠ a := by
    rintro rfl
    rcases h with h | ⟨u, h⟩
    · rw [e] at h; cases h; exact n
    · rw [e] at h; cases h; exact n
  rcases h with h | ⟨u, h⟩
  · exact .inl (by rw [upd_ne hb]; exact h)
  · exact .inr ⟨u, by rw [upd_ne hb]; exact h⟩
theorem ex_newG {q : List Addr} {a : Addr} {o : HO} (hq : ∀ b ∈ q, b = a) (e : H a = none) : Ex p H (p ++ q) (upd H a o) := by
  refine ⟨⟨q, rfl⟩, fun b xs h => ?_, fun b u h _ _ => by rw [upd_ne (ne_of_none h e)]; exact h, fun b h n => ?_, fun b o2 u h => by rw [upd_ne (ne_of_none h e)]; exact h⟩
  rotate_left
  · rcases List.mem_append.mp h with h | h
    · exact absurd h n
    · rw [hq b h]; intro o h2; rw [e] at h2; cases h2
  have hb : b ≠ a := by
    rintro rfl
    rcases h with h | ⟨u, h⟩ <;> · rw [e] at h; cases h
  rcases h with h | ⟨u, h⟩
  · exact .inl (by rw [upd_ne hb]; exact h)
  · exact .inr ⟨u, by rw [upd_ne hb]; exact h⟩
theorem ex_new {a : Addr} {o : HO} (e : H a = none) : Ex p H (p ++ [a]) (upd H a o) := ex_newG (by simp) e
theorem ex_new0 {a : Addr} {o : HO} (e : H a = none) : Ex p H p (upd H a o) := by
  have := ex_newG (p := p) (q := []) (o := o) (by simp) e
  simpa using this
/-- what is new and not in the store -/
theorem RS.beside (h : RS K p s H) {a : Addr} {o : HO} (e : H a = none) : RS K p s (upd H a o) := by
  refine ⟨h.len, h.nd, fun n ob b e1 e2 => ?_, fun x hx => tabS_new (h.tab x hx) e, fun x hx => by rw [upd_ne (ne_of_none (h.cob x hx) e)]; exact h.cob x hx, h.e0.trans (ex_new0 e).e0⟩
  obtain ⟨u, h1, h2⟩ := h.ob n ob b e1 e2
  exact ⟨u, by rw [upd_ne (ne_of_none h1 e)]; exact h1, h2.mono (ex_new0 e)⟩
/-- a new object of the store -/
theorem RS.push (h : RS K p s H) {a : Addr} {ob : Ob} {o : HO} (e : H a = none) (r : RO K (p ++ [a]) (upd H a o) ob o) : RS K (p ++ [a]) (s ++ [ob]) (upd H a o) := by
  refine ⟨by simp [h.len], ?_, fun n ob' b e1 e2 => ?_, fun x hx => tabS_new (h.tab x hx) e, fun x hx => by rw [upd_ne (ne_of_none (h.cob x hx) e)]; exact h.cob x hx, h.e0.trans (ex_new e).e0⟩
  · rw [List.nodup_append]
    refine ⟨h.nd, by simp, fun x hx y hy => ?_⟩
    have : y = a := by simpa using hy
    subst this
    rintro rfl
    exact h.fresh e hx
  · by_cases hn : n < s.length
    · rw [List.getElem?_append_left hn] at e1
      rw [List.getElem?_append_left (by rw [h.len]; exact hn)] at e2
      obtain ⟨u, h1, h2⟩ := h.ob n ob' b e1 e2
      exact ⟨u, by rw [upd_ne (ne_of_none h1 e)]; exact h1, h2.mono (ex_new e)⟩
    · have hn' : n = s.length := by
        have := (List.getElem?_eq_some_iff.mp e1).1
        simp at this; omega
      subst hn'
      rw [List.getElem?_append_right (Nat.le_refl _)] at e1
      rw [List.getElem?_append_right (by rw [h.len]; exact Nat.le_refl _), h.len] at e2
      simp at e1 e2
      subst e1 e2
      exact ⟨o, upd_same, r⟩
/-- an object of the store is changed -/
theorem RS.put (h : RS K p s H) {n : Nat} {a : Addr} {ob : Ob} {o o1 : HO} (hn : p[n]? = some a) (e : H a = some o1) (nt : NoTup0 o1) (r : RO K p (upd H a o) ob o) : RS K p (s.set n ob) (upd H a o) := by
  refine ⟨by simp [h.len], h.nd, fun m ob' b e1 e2 => ?_, fun x hx => tabS_chg (h.tab x hx) e nt fun b hb => upd_ne hb, fun x hx => cob_chg (h.cob x hx) e nt fun b hb => upd_ne hb, h.e0.trans (ex0_upd e nt)⟩
  by_cases hm : n = m
  · subst hm
    have hl : n < s.length := by rw [← h.len]; exact (List.getElem?_eq_some_iff.mp hn).1
    rw [List.getElem?_set_self hl] at e1
    cases e1
    rw [hn] at e2; cases e2
    exact ⟨o, upd_same, r⟩
  · rw [List.getElem?_set_ne hm] at e1
    obtain ⟨u, h1, h2⟩ := h.ob m ob' b e1 e2
    have hb : b ≠ a := by
      rintro rfl
      have hn1 := List.getElem?_eq_some_iff.mp hn
      have hm1 := List.getElem?_eq_some_iff.mp e2
      obtain ⟨l1, q1⟩ := hn1
      obtain ⟨l2, q2⟩ := hm1
      exact hm ((List.getElem_inj h.nd).mp (q1.trans q2.symm))
    exact ⟨u, by rw [upd_ne hb]; exact h1, h2.mono0 (ex0_upd e nt)⟩
end

/-! ### results -/
inductive R (α : Type) where
  | ok (a : α) (s : Sto)
  | exc (e : Exn) (s : Sto)
  | bad
def R.bind {α β : Type} : R α → (α → Sto → R β) → R β
  | .ok a s, f => f a s
  | .exc e s, _ => .exc e s
  | .bad, _ => .bad
@[simp] theorem R.bind_ok {α β : Type} {a : α} {s : Sto} {f : α → Sto → R β} : (R.ok a s).bind f = f a s := rfl
@[simp] theorem R.bind_exc {α β : Type} {e : Exn} {s : Sto} {f : α → Sto → R β} : (R.exc e s).bind f = .exc e s := rfl
@[simp] theorem R.bind_bad {α β : Type} {f : α → Sto → R β} : (R.bad).bind f = .bad := rfl
inductive S where
  | nx (r : Env) (s : Sto) | rt (d : D) (s : Sto) | bk (r : Env) (s : Sto) | ct (r : Env) (s : Sto) | exc (e : Exn) (r : Env) (s : Sto) | bad
abbrev ME := Env → Sto → R D
abbrev MT := Env → Sto → R Bool
abbrev MA := Env → Sto → R (List D)
abbrev MG := D → Env → Sto → R Env
abbrev MS := Env → Sto → S
abbrev MF := List D → Sto → R D

/-- an expression's result and what is wanted of it -/
def pR {α : Type} (K : PySem.W.Frag) (W : WX) (t : St) (p : List Addr) (H : Hp) (r : R α) (k : List Addr → Hp → α → Sto → Prop) : Prop := match r with
  | .ok a s => ∀ p' H', Ex p H p' H' → RS K p' s H' → k p' H' a s
  | .exc e s => ∀ p' H' d, Ex p H p' H' → RS K p' s H' → RX K p' H' e d → W (.ref e.cls) d t H'
  | .bad => False
/-- a statement's -/
def pS (K : PySem.W.Frag) (W : WX) (D : Ends) (p : List Addr) (H : Hp) (r : S) : Prop := match r with
  | .nx r s => ∀ p' H' t, Ex p H p' H' → RS K p' s H' → RE K p' H' r t → D.nx t H'
  | .rt d s => ∀ p' H' v, Ex p H p' H' → RS K p' s H' → RD K p' H' d v → D.rt v H'
  | .bk r s => ∀ p' H' t, Ex p H p' H' → RS K p' s H' → RE K p' H' r t → D.bk t H'
  | .ct r s => ∀ p' H' t, Ex p H p' H' → RS K p' s H' → RE K p' H' r t → D.ct t H'
  | .exc e r s => ∀ p' H' t d, Ex p H p' H' → RS K p' s H' → RE K p' H' r t → RX K p' H' e d → W (.ref e.cls) d t H'
  | .bad => False
section
variable {K : PySem.W.Frag} {W : WX} {p p' : List Addr} {H H' : Hp} {t : St}
theorem pR.mono {α : Type} {r : R α} {k : List Addr → Hp → α → Sto → Prop} (e : Ex p H p' H') (h : pR K W t p H r k) : pR K W t p' H' r k := by
  cases r with
  | ok a s => exact fun p2 H2 e2 => h p2 H2 (e.trans e2)
  | exc x s => exact fun p2 H2 d e2 => h p2 H2 d (e.trans e2)
  | bad => exact h
theorem pS.mono {D : Ends} {r : S} (e : Ex p H p' H') (h : pS K W D p H r) : pS K W D p' H' r := by
  cases r with
  | nx r s => exact fun p2 H2 t e2 => h p2 H2 t (e.trans e2)
  | rt d s => exact fun p2 H2 v e2 => h p2 H2 v (e.trans e2)
  | bk r s => exact fun p2 H2 t e2 => h p2 H2 t (e.trans e2)
  | ct r s => exact fun p2 H2 t e2 => h p2 H2 t (e.trans e2)
  | exc x r s => exact fun p2 H2 t d e2 => h p2 H2 t d (e.trans e2)
  | bad => exact h
theorem pR.imp {α : Type} {r : R α} {k k' : List Addr → Hp → α → Sto → Prop} (h : pR K W t p H r k) (f : ∀ p' H' a s, Ex p H p' H' → RS K p' s H' → k p' H' a s → k' p' H' a s) : pR K W t p H r k' := by
  cases r with
  | ok a s => exact fun p2 H2 e2 r2 => f p2 H2 a s e2 r2 (h p2 H2 e2 r2)
  | exc x s => exact h
  | bad => exact h
/-- what is behind a step -/
theorem pR.bind {α β : Type} {r : R α} {f : α → Sto → R β} {k : List Addr → Hp → β → Sto → Prop} (h : pR K W t p H (r.bind f) k) :
    pR K W t p H r (fun p' H' a s => pR K W t p' H' (f a s) k) := by
  cases r with
  | ok a s => exact fun p2 H2 e2 _ => pR.mono e2 h
  | exc x s => exact h
  | bad => exact h
end

/-! ### readings -/
def tE (K : PySem.W.Frag) (W : WX) (m : ME) : TE := fun t H Q => ∃ p r s, RE K p H r t ∧ RS K p s H ∧ pR K W t p H (m r s) fun p' H' d _ => ∀ v, RD K p' H' d v → Q v H'
def tT (K : PySem.W.Frag) (W : WX) (m : MT) : TT := fun t H Q => ∃ p r s, RE K p H r t ∧ RS K p s H ∧ pR K W t p H (m r s) fun _ H' b _ => Q b H'
def tA (K : PySem.W.Frag) (W : WX) (m : MA) : TA := fun t H Q => ∃ p r s, RE K p H r t ∧ RS K p s H ∧ pR K W t p H (m r s) fun p' H' ds _ => ∀ vs, RDs K p' H' ds vs → Q vs H'
/-- an expression whose value is a list just made: its items -/
def tL (K : PySem.W.Frag) (W : WX) (m : MA) : TE := fun t H Q => ∃ p r s, RE K p H r t ∧ RS K p s H ∧ pR K W t p H (m r s) fun p' H' ds _ => ∀ a vs, H' a = none → RDs K p' H' ds vs → Q (.ref a) (upd H' a (.lst vs))
def tS (K : PySem.W.Frag) (W : WX) (m : MS) : TS := fun D t H => ∃ p r s, RE K p H r t ∧ RS K p s H ∧ pS K W D p H (m r s)

abbrev DE (X : Cx) (W : WX) (e : Expr) (m : ME) : Prop := PE X e (tE X.K W m)
abbrev DT (X : Cx) (W : WX) (e : Expr) (m : MT) : Prop := PT X e (tT X.K W m)
abbrev DA (X : Cx) (W : WX) (es : List Expr) (m : MA) : Prop := PA X es (tA X.K W m)
abbrev DLs (X : Cx) (W : WX) (e : Expr) (m : MA) : Prop := PE X e (tL X.K W m)
abbrev DS (X : Cx) (W : WX) (st : Stmt) (m : MS) : Prop := PS X st (tS X.K W m)
abbrev DSs (X : Cx) (W : WX) (st : List Stmt) (m : MS) : Prop := PSs X st (tS X.K W m)

section
variable {X : Cx}
theorem PE.imp {e : Expr} {t t' : TE} (h : PE X e t) (f : ∀ σ H Q, t' σ H Q → t σ H Q) : PE X e t' := ⟨fun pins s σ H Q I q => h.run pins s σ H Q I (f σ H Q q)⟩
theorem PT.imp {e : Expr} {t t' : TT} (h : PT X e t) (f : ∀ σ H Q, t' σ H Q → t σ H Q) : PT X e t' := ⟨fun pins s σ H Q I q => h.run pins s σ H Q I (f σ H Q q)⟩
theorem PA.imp {e : List Expr} {t t' : TA} (h : PA X e t) (f : ∀ σ H Q, t' σ H Q → t σ H Q) : PA X e t' := ⟨fun pos pins s σ H Q I q => h.run pos pins s σ H Q I (f σ H Q q)⟩
theorem PG.imp {e : Expr} {t t' : TG} (h : PG X e t) (f : ∀ v σ H Q, t' v σ H Q → t v σ H Q) : PG X e t' := ⟨fun pins s σ H v u Q I r q => h.run pins s σ H v u Q I r (f v σ H Q q)⟩
theorem PS.imp {e : Stmt} {t t' : TS} (h : PS X e t) (f : ∀ D σ H, t' D σ H → t D σ H) : PS X e t' := ⟨fun pins s σ H D I q => h.run pins s σ H D I (f D σ H q)⟩
theorem PSs.imp {e : List Stmt} {t t' : TS} (h : PSs X e t) (f : ∀ D σ H, t' D σ H → t D σ H) : PSs X e t' := ⟨fun pins s σ H D I q => h.run pins s σ H D I (f D σ H q)⟩
theorem OpR.imp {f : Value → Value → Sem Value} {r r' : R2} (h : OpR X f r) (g : ∀ x y H Q, r' x y H Q → r x y H Q) : OpR X f r' := fun pins s σ H x y v u Q I rx ry q => h pins s σ H x y v u Q I rx ry (g x y H Q q)
end

/-! ### composition -/
section
variable {K : PySem.W.Frag} {W : WX} {t : St} {H : Hp}
/-- from a bind: the first part, then the second -/
theorem tE.step {m : ME} {f : D → Sto → R D} {p : List Addr} {r : Env} {s : Sto} {Q : VK} {Q1 : VK} (he : RE K p H r t) (hs : RS K p s H)
    (h : pR K W t p H ((m r s).bind f) fun p' H' d _ => ∀ v, RD K p' H' d v → Q v H')
    (g : ∀ p1 H1 d v s1, Ex p H p1 H1 → RS K p1 s1 H1 → RE K p1 H1 r t → RD K p1 H1 d v → (pR K W t p1 H1 (f d s1) fun p' H' d _ => ∀ v, RD K p' H' d v → Q v H') → Q1 v H1) : tE K W m t H Q1 :=
  ⟨p, r, s, he, hs, (pR.bind h).imp fun p1 H1 d s1 e1 r1 q v rv => g p1 H1 d v s1 e1 r1 (he.mono e1) rv q⟩
end
end DL
end
/-! ### DL0 -/
section
set_option linter.all false
set_option maxRecDepth 100000
set_option maxHeartbeats 4000000
/-! DL0: tuple * 1, tuple * 0. -/
namespace L2
open PySem PySem.Spec PyProof.Rows
theorem tup_mul1 (l : Addr) (items : Array Value) (n : Nat) (dd : Option Addr) (sl : Array (Option Value)) (u : Tok) :
    Meets (Builtin.«tuple.__mul__» ⟨[.ref l, .int 1 u], []⟩) (fun _ R s => s.heap.get? l = some { cls := .type "tuple", dict := dd, data := .seq items n, slots := sl } ∧ R (.ok (.ret (.ref l))) s) :=
  .of_wp fun prog w A R s h => by
    obtain ⟨hp, g, d, tk, os⟩ := s
    obtain ⟨hl, h⟩ := h
    have f1 := AutoSeq1.idx_int
    have c0 : (decide ((1 : Int) < -(2 ^ 63)) || decide ((1 : Int) ≥ 2 ^ 63)) = false := by decide
    have c1 : (items.isEmpty || (1 : Int) == 1) = true := by simp
    wp_walk using wpAny_loadPart' hl
    repeat (first
      | (refine wpAny_ite_false (decide_eq_false (by rw [c0]; exact Bool.false_ne_true)) ?_; wp_walk using wpAny_loadPart' hl)
      | (refine wpAny_ite_true (decide_eq_true c1) ?_; wp_walk using wpAny_loadPart' hl))
    exact ⟨_, rfl, h⟩
theorem tup_mul0 (l : Addr) (items : Array Value) (n : Nat) (dd : Option Addr) (sl : Array (Option Value)) (u : Tok) (hi : items.isEmpty = false) :
    Meets (Builtin.«tuple.__mul__» ⟨[.ref l, .int 0 u], []⟩) (fun _ R s => s.heap.get? l = some { cls := .type "tuple", dict := dd, data := .seq items n, slots := sl } ∧
      R (.ok (.ret (Value.ref s.heap.objs.size))) { s with heap := s.heap.push { cls := Value.type "tuple", data := Data.seq #[] }, toks := s.toks }) :=
  .of_wp fun prog w A R s h => by
    obtain ⟨hp, g, d, tk, os⟩ := s
    obtain ⟨hl, h⟩ := h
    have f1 := AutoSeq1.idx_int
    have c0 : (decide ((0 : Int) < -(2 ^ 63)) || decide ((0 : Int) ≥ 2 ^ 63)) = false := by decide
    have c1 : (items.isEmpty || (0 : Int) == 1) = false := by rw [hi]; decide
    have c2 : (decide ((0 : Int) ≤ 0) || items.isEmpty) = true := by simp
    wp_walk using wpAny_loadPart' hl
    repeat (first
      | (refine wpAny_ite_false (decide_eq_false (by rw [c0]; exact Bool.false_ne_true)) ?_; wp_walk using wpAny_loadPart' hl)
      | (refine wpAny_ite_false (decide_eq_false (by rw [c1]; exact Bool.false_ne_true)) ?_; wp_walk using wpAny_loadPart' hl)
      | (refine wpAny_ite_true (decide_eq_true c2) ?_; wp_walk using wpAny_loadPart' hl))
    exact ⟨_, rfl, h⟩
theorem tup_mulE (l : Addr) (n : Nat) (dd : Option Addr) (sl : Array (Option Value)) (x : Int) (u : Tok) (c0 : (decide (x < -(2 ^ 63)) || decide (x ≥ 2 ^ 63)) = false) :
    Meets (Builtin.«tuple.__mul__» ⟨[.ref l, .int x u], []⟩) (fun _ R s => s.heap.get? l = some { cls := .type "tuple", dict := dd, data := .seq #[] n, slots := sl } ∧ R (.ok (.ret (.ref l))) s) :=
  .of_wp fun prog w A R s h => by
    obtain ⟨hp, g, d, tk, os⟩ := s
    obtain ⟨hl, h⟩ := h
    have f1 := AutoSeq1.idx_int
    have c1 : ((#[] : Array Value).isEmpty || x == 1) = true := by simp
    wp_walk using wpAny_loadPart' hl
    repeat (first
      | (refine wpAny_ite_false (decide_eq_false (by rw [c0]; exact Bool.false_ne_true)) ?_; wp_walk using wpAny_loadPart' hl)
      | (refine wpAny_ite_true (decide_eq_true c1) ?_; wp_walk using wpAny_loadPart' hl))
    exact ⟨_, rfl, h⟩
def rRepE (K : PySem.W.Frag) : R2 := fun x y H Q => ∃ l k, x = .ref l ∧ y = .int k ∧ SqT K H l [] ∧ -(2 ^ 62) ≤ k ∧ k < 2 ^ 62 ∧ Q (.ref l) H
theorem op_repE {X : Cx} : OpR X (binaryOp .Mult) (rRepE X.K) := by
  intro pins s σ H x y v u Q I rx ry h
  obtain ⟨l, k, rfl, rfl, hT, h1, h2, q⟩ := h
  cases rx
  obtain ⟨its, r, ⟨⟨cls, dd, data, sl⟩, ho, hc, n, hd⟩, hs⟩ := I.tuple hT
  simp only at hc hd
  subst hc hd
  have hn : its = [] := List.eq_nil_of_length_eq_zero (by rw [← r.length]; rfl)
  subst hn
  have c0 : (decide (k < -(2 ^ 63)) || decide (k ≥ 2 ^ 63)) = false := by
    rw [decide_eq_false (by omega), decide_eq_false (by omega)] <;> rfl
  obtain ⟨t, rfl⟩ := ry
  refine wpAny_binaryOp_repeat_ref (T := "tuple") (U := "int") (by decide) ⟨_, ho, rfl⟩ (fun s' => typeIs_int s' k t) noFill_tuple_mul F.fills_int_mul F.slot_int_rmul repeat_tuple F.slot_int_index.lookup
    (call_meets F.slot_int_rmul (typeIs_int s k t) F.entry_int_rmul (F.args_int_rmul_2 _ _) (int_rmul_tuple k t l #[] n dd sl)
      ⟨ho, rfl, ⟨_, ho, rfl⟩, call_meets F.slot_tuple_mul ⟨_, ho, rfl⟩ F.entry_tuple_mul (F.args_tuple_mul_2 _ _) (tup_mulE l n dd sl k t c0) ⟨ho, ?_⟩⟩)
  exact ⟨.ref l, H, I, rfl, q⟩
def rRep01 (K : PySem.W.Frag) : R2 := fun x y H Q => ∃ l xs, x = .ref l ∧ SqT K H l xs ∧ xs ≠ [] ∧ ((y = .int 1 ∧ Q (.ref l) H) ∨ (y = .int 0 ∧ ∀ p, H p = none → Q (.ref p) (upd H p (.tup []))))
theorem op_rep01 {X : Cx} : OpR X (binaryOp .Mult) (rRep01 X.K) := by
  intro pins s σ H x y v u Q I rx ry h
  obtain ⟨l, xs, rfl, hT, hne, h⟩ := h
  cases rx
  obtain ⟨its, r, ⟨⟨cls, dd, data, sl⟩, ho, hc, n, hd⟩, hs⟩ := I.tuple hT
  simp only at hc hd
  subst hc hd
  have hn : its ≠ [] := fun e => hne (by
    have hle : its.length = xs.length := r.length.symm
    rw [e] at hle
    exact List.eq_nil_of_length_eq_zero hle.symm)
  have hi : its.toArray.isEmpty = false := by
    cases its with
    | nil => exact absurd rfl hn
    | cons a b => rfl
  rcases h with ⟨rfl, q⟩ | ⟨rfl, q⟩
  · obtain ⟨t, rfl⟩ := ry
    refine wpAny_binaryOp_repeat_ref (T := "tuple") (U := "int") (by decide) ⟨_, ho, rfl⟩ (fun s' => typeIs_int s' 1 t) noFill_tuple_mul F.fills_int_mul F.slot_int_rmul repeat_tuple F.slot_int_index.lookup
      (call_meets F.slot_int_rmul (typeIs_int s 1 t) F.entry_int_rmul (F.args_int_rmul_2 _ _) (int_rmul_tuple 1 t l its.toArray n dd sl)
        ⟨ho, rfl, ⟨_, ho, rfl⟩, call_meets F.slot_tuple_mul ⟨_, ho, rfl⟩ F.entry_tuple_mul (F.args_tuple_mul_2 _ _) (tup_mul1 l its.toArray n dd sl t) ⟨ho, ?_⟩⟩)
    exact ⟨.ref l, H, I, rfl, q⟩
  · obtain ⟨t, rfl⟩ := ry
    refine wpAny_binaryOp_repeat_ref (T := "tuple") (U := "int") (by decide) ⟨_, ho, rfl⟩ (fun s' => typeIs_int s' 0 t) noFill_tuple_mul F.fills_int_mul F.slot_int_rmul repeat_tuple F.slot_int_index.lookup
      (call_meets F.slot_int_rmul (typeIs_int s 0 t) F.entry_int_rmul (F.args_int_rmul_2 _ _) (int_rmul_tuple 0 t l its.toArray n dd sl)
        ⟨ho, rfl, ⟨_, ho, rfl⟩, call_meets F.slot_tuple_mul ⟨_, ho, rfl⟩ F.entry_tuple_mul (F.args_tuple_mul_2 _ _) (tup_mul0 l its.toArray n dd sl t hi) ⟨ho, ?_⟩⟩)
    refine ⟨.ref s.heap.objs.size, _, I.laid (t' := s.toks) (o := .tup []) (fun b ob q => Heap.get?_push_of_some _ q) (Nat.le_refl _) ?_, rfl, q _ (I.hok.fresh (Nat.le_refl _))⟩
    exact ⟨Nat.zero_le _, [], .nil, IsTup.new _ _⟩
end L2
end
/-! ### DL2 -/
section
set_option linter.all false
set_option maxRecDepth 100000
/-! DL2: expressions. -/
namespace DL
open PySem PySem.Spec L2
open PyProof.Rows hiding St
variable [Tbs]

/-- a value and a store are there -/
def Fin (K : PySem.W.Frag) (p : List Addr) (H : Hp) (z : D) (s : Sto) (Q : VK) : Prop := ∀ p' H' v, Ex p H p' H' → RS K p' s H' → RD K p' H' z v → Q v H'
def R.of {α : Type} : Option (α × Sto) → R α
  | some (a, s) => .ok a s
  | none => .bad
@[simp] theorem R.of_some {α : Type} {a : α} {s : Sto} : R.of (some (a, s)) = .ok a s := rfl
@[simp] theorem R.of_none {α : Type} : R.of (none : Option (α × Sto)) = .bad := rfl
abbrev G2 := D → D → Sto → Option (D × Sto)
abbrev GF := List D → Sto → Option (D × Sto)
section
variable {K : PySem.W.Frag} {p : List Addr} {H : Hp} {s : Sto} {Q : VK}
theorem Fin.now {z : D} {v : V} (h : Fin K p H z s Q) (hs : RS K p s H) (r : RD K p H z v) : Q v H := h p H v .refl hs r
theorem Fin.lst {ds : List D} {vs : List V} {a : Addr} (h : Fin K p H (.loc s.length) (s ++ [.lst ds]) Q) (hs : RS K p s H) (r : RDs K p H ds vs) (ha : H a = none) : Q (.ref a) (upd H a (.lst vs)) :=
  h (p ++ [a]) _ _ (ex_new ha) (hs.push ha (.lst (r.mono (ex_new ha)))) (.loc (by rw [← hs.len]; simp))
theorem Fin.tup {ds : List D} {vs : List V} {a : Addr} (h : Fin K p H (.tup ds) s Q) (hs : RS K p s H) (r : RDs K p H ds vs) (ha : H a = none) : Q (.ref a) (upd H a (.tup vs)) :=
  h p _ _ (ex_new0 ha) (hs.beside ha) (.tup (SqT.of upd_same) (r.mono (ex_new0 ha)))
theorem pR.fin {W : WX} {t : L2.St} {o : Option (D × Sto)} (h : pR K W t p H (R.of o) fun p' H' d _ => ∀ v, RD K p' H' d v → Q v H') : ∃ z s', o = some (z, s') ∧ Fin K p H z s' Q := by
  cases o with
  | none => exact h.elim
  | some q => obtain ⟨z, s'⟩ := q; exact ⟨z, s', rfl, fun p' H' v e r rd => h p' H' e r v rd⟩
end
def OpD (X : Cx) (f : Value → Value → Sem Value) (g : G2) : Prop := OpR X f (fun x y H Q => ∃ p s d e z s', RS X.K p s H ∧ RD X.K p H d x ∧ RD X.K p H e y ∧ g d e s = some (z, s') ∧ Fin X.K p H z s' Q)
def CallD (X : Cx) (f : Value) (g : GF) : Prop := CallR X f (fun vs H Q => ∃ p s ds z s', RS X.K p s H ∧ RDs X.K p H ds vs ∧ g ds s = some (z, s') ∧ Fin X.K p H z s' Q)
theorem CallR.imp {X : Cx} {f : Value} {r r' : List V → Hp → VK → Prop} (h : CallR X f r) (g : ∀ xs H Q, r' xs H Q → r xs H Q) : CallR X f r' := fun pins s σ H xs us Q I rv q => h pins s σ H xs us Q I rv (g xs H Q q)
theorem CallR.or {X : Cx} {f : Value} {r r' : List V → Hp → VK → Prop} (h : CallR X f r) (h' : CallR X f r') : CallR X f (fun xs H Q => r xs H Q ∨ r' xs H Q) := fun pins s σ H xs us Q I rv q =>
  q.elim (fun z => h pins s σ H xs us Q I rv z) fun z => h' pins s σ H xs us Q I rv z

/-! ### names, constants -/
def mVar (i : Nat) : ME := fun r s => match r[i]? with
  | some (some d) => .ok d s
  | _ => .bad
def mC (d : D) : ME := fun _ s => .ok d s
section
variable {X : Cx} {W : WX} {pos : Pos}
theorem de_var (i : Nat) {x : Str} (h : PE X (.Name x pos) (tVar i)) : DE X W (.Name x pos) (mVar i) := PE.imp h fun t H Q ⟨p, r, s, he, hs, q⟩ => by
  simp only [mVar] at q
  split at q
  · rename_i d e
    obtain ⟨v, h1, h2⟩ := he.at_ i d e
    exact ⟨v, h1, q p H .refl hs v h2⟩
  · exact q.elim
theorem de_c {e : Expr} {v : V} {d : D} (h : PE X e (tC v)) (r : ∀ p H, RD X.K p H d v) : DE X W e (mC d) := PE.imp h fun t H Q ⟨p, _, s, he, hs, q⟩ => q p H .refl hs v (r p H)
theorem de_int {i : Int} {j : Nat} : DE X W (.Constant (.int i) j pos) (mC (.int i)) := de_c pe_int fun _ _ => .int i
theorem de_bl {b : Bool} {j : Nat} : DE X W (.Constant (.bool b) j pos) (mC (.bl b)) := de_c pe_bl fun _ _ => .bl b
theorem de_non {j : Nat} : DE X W (.Constant .none j pos) (mC .non) := de_c pe_non fun _ _ => .non
theorem de_str {x : Str} {j : Nat} : DE X W (.Constant (.str x) j pos) (mC (.str x)) := de_c pe_str fun _ _ => .str x
/-- a module's int -/
theorem de_gint {x : Str} {i : Int} {k : Tok} (hg : Gl X x) (hm : X.mg x = some (.int i k)) (hd : (x == ("__debug__" : Str)) = false := by decide) : DE X W (.Name x pos) (mC (.int i)) := de_c (v := .int i) (pe_glob hg hm ⟨k, rfl⟩ hd) fun _ _ => .int i
/-- a class, a def of the module as a value -/
theorem de_gref {x : Str} {a : Addr} (hg : Gl X x) (hm : X.mg x = some (.ref a)) (hd : (x == ("__debug__" : Str)) = false := by decide) : DE X W (.Name x pos) (mC (.con (.ref a))) := de_c (v := .ref a) (pe_glob hg hm rfl hd) fun _ _ => .con _
theorem de_ty {x : Str} {n : String} (hg : Gl X x) (hm : X.mg x = none) (hv : bootBuiltins x = some (.type n)) (hn : x ≠ "__name__" := by decide) (hd : (x == ("__debug__" : Str)) = false := by decide) : DE X W (.Name x pos) (mC (.con (.ty n))) :=
  de_c (v := .ty n) (pe_bltn hg hm hv rfl hn hd) fun _ _ => .con _
end

/-! ### two-place operations -/
def mBin (g : G2) (m n : ME) : ME := fun r s => (m r s).bind fun d s1 => (n r s1).bind fun e s2 => R.of (g d e s2)
section
variable {X : Cx} {W : WX} {pos : Pos} {a b : Expr} {m n : ME}
theorem tOp_of {g : G2} {t : L2.St} {H : Hp} {Q : VK} (q : tE X.K W (mBin g m n) t H Q) :
    tOp (fun x y H Q => ∃ p s d e z s', RS X.K p s H ∧ RD X.K p H d x ∧ RD X.K p H e y ∧ g d e s = some (z, s') ∧ Fin X.K p H z s' Q) (tE X.K W m) (tE X.K W n) t H Q := by
  obtain ⟨p, r, s, he, hs, q⟩ := q
  refine tE.step he hs q fun p1 H1 d v s1 e1 r1 he1 rd q1 => ?_
  refine tE.step he1 r1 q1 fun p2 H2 e u s2 e2 r2 he2 rd2 q2 => ?_
  obtain ⟨z, s', hz, hf⟩ := pR.fin q2
  exact ⟨p2, s2, d, e, z, s', r2, rd.mono e2, rd2, hz, hf⟩
theorem de_bin {op : Operator} {g : G2} (ho : OpD X (binaryOp op) g) (ha : DE X W a m) (hb : DE X W b n) : DE X W (.BinOp a op b pos) (mBin g m n) := PE.imp (pe_op ho ha hb) fun _ _ _ q => tOp_of q
theorem de_cmp {op : CmpOp} {g : G2} (ho : OpD X (compareOp op) g) (ha : DE X W a m) (hb : DE X W b n) (hm : behindInMarks op b = false) : DE X W (.Compare a [op] [b] pos) (mBin g m n) := PE.imp (pe_cmpR ho ha hb hm) fun _ _ _ q => tOp_of q
end

/-- + -/
def gAdd : G2
  | .int i, .int j, s => some (.int (i + j), s)
  | .int i, .bl k, s => some (.int (i + b2i k), s)
  | .str x, .str y, s => if x.length + y.length ≤ sizeLine then some (.str (x ++ y), s) else none
  | .tup xs, .tup ys, s => if xs.length + ys.length ≤ sizeLine then some (.tup (xs ++ ys), s) else none
  | .loc a, .loc b, s => match s[a]?, s[b]? with
    | some (.lst xs), some (.lst ys) => if xs.length + ys.length ≤ sizeLine then some (.loc s.length, s ++ [.lst (xs ++ ys)]) else none
    | _, _ => none
  | _, _, _ => none
def gSub : G2
  | .int i, .int j, s => some (.int (i - j), s)
  | _, _, _ => none
/-- * : ints, together below a million bits; a list so many times -/
def gMul : G2
  | .int i, .int j, s => if (-(2 ^ 64) < i ∧ i < 2 ^ 64) ∨ (-(2 ^ 64) < j ∧ j < 2 ^ 64) then some (.int (i * j), s) else none
  | .loc a, .int k, s => match s[a]? with
    | some (.lst xs) => if -(2 ^ 63) ≤ k ∧ k < 2 ^ 63 ∧ xs.length * k.toNat ≤ sizeLine then some (.loc s.length, s ++ [.lst (List.replicate k.toNat xs).flatten]) else none
    | _ => none
  | .tup xs, .int k, s => if xs ≠ [] ∧ 2 ≤ k ∧ k ≤ 1000 ∧ xs.length ≤ 1000 then some (.tup (List.replicate k.toNat xs).flatten, s) else if xs ≠ [] ∧ k = 1 then some (.tup xs, s) else if xs ≠ [] ∧ k = 0 then some (.tup [], s) else if xs = [] ∧ -(2 ^ 62) ≤ k ∧ k < 2 ^ 62 then some (.tup [], s) else none
  | _, _, _ => none
def gMod : G2
  | .int i, .int j, s => if 0 < j then some (.int (i % j), s) else none
  | _, _, _ => none
def gFdiv : G2
  | .int i, .int j, s => if 0 < j ∧ j < 1073741824 then some (.int (i / j), s) else none
  | _, _, _ => none
def gPow : G2
  | .int i, .int j, s => if 0 ≤ j ∧ j ≤ 1000000 ∧ i.natAbs < 2 ^ 64 then some (.int (i ^ j.toNat), s) else none
  | _, _, _ => none
section
variable {X : Cx}
theorem op_addD : OpD X (binaryOp .Add) gAdd := by
  refine OpR.imp (((((op_add.or op_add_ib).or op_add_str).or op_catA).or op_cat)) fun x y H Q h => ?_
  obtain ⟨p, s, d, e, z, s', hs, rx, ry, hg, hf⟩ := h
  cases rx with
  | non => simp [gAdd] at hg
  | bl b => simp [gAdd] at hg
  | con v => simp [gAdd] at hg
  | int i =>
    cases ry <;> simp [gAdd] at hg
    · obtain ⟨rfl, rfl⟩ := hg
      exact .inl (.inl (.inl (.inr ⟨_, _, rfl, rfl, hf.now hs (.int _)⟩)))
    · obtain ⟨rfl, rfl⟩ := hg
      exact .inl (.inl (.inl (.inl ⟨_, _, rfl, rfl, hf.now hs (.int _)⟩)))
  | str i =>
    cases ry <;> simp [gAdd] at hg
    obtain ⟨hl, rfl, rfl⟩ := hg
    exact .inl (.inl (.inr ⟨_, _, rfl, rfl, hl, hf.now hs (.str _)⟩))
  | tup h r =>
    cases ry <;> simp [gAdd] at hg
    rename_i h2 r2
    obtain ⟨hl, rfl, rfl⟩ := hg
    refine .inl (.inr ⟨_, _, _, _, rfl, rfl, h, h2, by rw [← r.length, ← r2.length]; exact hl, fun e => ?_, fun _ e => ?_, fun _ _ q hq => ?_⟩)
    · subst e
      cases r
      exact hf.now hs (.tup h2 (by simpa using r2))
    · subst e
      cases r2
      exact hf.now hs (.tup h (by simpa using r))
    · exact hf.tup hs (r.append r2) hq
  | loc h =>
    cases ry <;> simp [gAdd] at hg
    rename_i n a m b h2
    split at hg
    · rename_i xs ys e1 e2
      simp at hg
      obtain ⟨hl, rfl, rfl⟩ := hg
      obtain ⟨a1, o1, q1, q2, q3⟩ := hs.mut e1
      obtain ⟨a2, o2, w1, w2, w3⟩ := hs.mut e2
      rw [h] at q1; cases q1
      rw [h2] at w1; cases w1
      cases q3 with
      | lst r1 =>
        cases w3 with
        | lst r2 => exact .inr ⟨_, _, _, _, rfl, rfl, q2, w2, by rw [← r1.length, ← r2.length]; exact hl, fun q hq => hf.lst hs (r1.append r2) hq⟩
    · cases hg
theorem op_subD : OpD X (binaryOp .Sub) gSub := by
  refine OpR.imp op_sub fun x y H Q h => ?_
  obtain ⟨p, s, d, e, z, s', hs, rx, ry, hg, hf⟩ := h
  cases rx <;> cases ry <;> simp [gSub] at hg
  obtain ⟨rfl, rfl⟩ := hg
  exact ⟨_, _, rfl, rfl, hf.now hs (.int _)⟩
theorem op_modD : OpD X (binaryOp .Mod) gMod := by
  refine OpR.imp op_mod fun x y H Q h => ?_
  obtain ⟨p, s, d, e, z, s', hs, rx, ry, hg, hf⟩ := h
  cases rx <;> cases ry <;> simp [gMod] at hg
  obtain ⟨hj, rfl, rfl⟩ := hg
  exact ⟨_, _, rfl, rfl, hj, hf.now hs (.int _)⟩
theorem op_fdivD : OpD X (binaryOp .FloorDiv) gFdiv := by
  refine OpR.imp op_fdiv fun x y H Q h => ?_
  obtain ⟨p, s, d, e, z, s', hs, rx, ry, hg, hf⟩ := h
  cases rx <;> cases ry <;> simp [gFdiv] at hg
  obtain ⟨hj, rfl, rfl⟩ := hg
  exact ⟨_, _, rfl, rfl, hj, hf.now hs (.int _)⟩
theorem op_powD : OpD X (binaryOp .Pow) gPow := by
  refine OpR.imp op_pow fun x y H Q h => ?_
  obtain ⟨p, s, d, e, z, s', hs, rx, ry, hg, hf⟩ := h
  cases rx <;> cases ry <;> simp [gPow] at hg
  obtain ⟨hj, rfl, rfl⟩ := hg
  exact ⟨_, _, rfl, rfl, hj, hf.now hs (.int _)⟩
theorem RDs.rep {K : PySem.W.Frag} {p : List Addr} {H : Hp} {ds : List D} {vs : List V} (r : RDs K p H ds vs) : ∀ n : Nat, RDs K p H (List.replicate n ds).flatten (List.replicate n vs).flatten
  | 0 => .nil
  | n + 1 => by simp only [List.replicate_succ, List.flatten_cons]; exact r.append (RDs.rep r n)
theorem op_mulD : OpD X (binaryOp .Mult) gMul := by
  refine OpR.imp ((((op_mul.or op_rep).or op_repT).or op_rep01).or op_repE) fun x y H Q h => ?_
  obtain ⟨p, s, d, e, z, s', hs, rx, ry, hg, hf⟩ := h
  cases rx with
  | non => simp [gMul] at hg
  | bl b => simp [gMul] at hg
  | con v => simp [gMul] at hg
  | str i => simp [gMul] at hg
  | int i =>
    cases ry <;> simp only [gMul] at hg <;> try (cases hg; done)
    split at hg
    · rename_i hc
      cases hg
      exact .inl (.inl (.inl (.inl ⟨_, _, rfl, rfl, hc, hf.now hs (.int _)⟩)))
    · cases hg
  | tup h r =>
    cases ry <;> simp only [gMul] at hg <;> try (cases hg; done)
    split at hg
    · rename_i hc
      cases hg
      have hl := r.length
      refine .inl (.inl (.inr ⟨_, _, _, rfl, rfl, h, ?_, hc.2.1, hc.2.2.1, by rw [← hl]; exact hc.2.2.2, fun q hq => hf.tup hs (r.rep _) hq⟩))
      rintro rfl
      cases r
      exact hc.1 rfl
    · split at hg
      · rename_i hc
        cases hg
        obtain ⟨hne, rfl⟩ := hc
        refine .inl (.inr ⟨_, _, rfl, h, ?_, .inl ⟨rfl, hf.now hs (.tup h r)⟩⟩)
        rintro rfl
        cases r
        exact hne rfl
      · split at hg
        · rename_i hc
          cases hg
          obtain ⟨hne, rfl⟩ := hc
          refine .inl (.inr ⟨_, _, rfl, h, ?_, .inr ⟨rfl, fun q hq => hf.tup hs .nil hq⟩⟩)
          rintro rfl
          cases r
          exact hne rfl
        · split at hg
          · rename_i hc
            cases hg
            obtain ⟨rfl, h1, h2⟩ := hc
            cases r
            exact .inr ⟨_, _, rfl, rfl, h, h1, h2, hf.now hs (.tup h .nil)⟩
          · cases hg
  | loc h =>
    cases ry <;> simp only [gMul] at hg <;> try (cases hg; done)
    split at hg
    · rename_i xs e1
      split at hg
      · rename_i hc
        cases hg
        obtain ⟨a1, o1, q1, q2, q3⟩ := hs.mut e1
        rw [h] at q1; cases q1
        cases q3 with
        | lst r1 => exact .inl (.inl (.inl (.inr ⟨_, _, _, rfl, rfl, q2, hc.1, hc.2.1, by rw [← r1.length]; exact hc.2.2, fun q hq => hf.lst hs (r1.rep _) hq⟩)))
      · cases hg
    · cases hg
end
end DL
end
/-! ### DL3 -/
section
set_option linter.all false
set_option maxRecDepth 100000
/-! DL3: comparisons, tests. -/
namespace DL
open PySem PySem.Spec L2
open PyProof.Rows hiding St
variable [Tbs]

/-! ### data read deep -/
mutual
def D.pyW (g : Nat → Option PyData) : D → Option PyData
  | .non => some .none
  | .bl b => some (.bool b)
  | .int i => some (.int i)
  | .str x => some (.str x)
  | .tup ds => (D.pysW g ds).map .tuple
  | .loc n => g n
  | .con _ => none
def D.pysW (g : Nat → Option PyData) : List D → Option (List PyData)
  | [] => some []
  | d :: ds => match D.pyW g d, D.pysW g ds with
    | some a, some as => some (a :: as)
    | _, _ => none
end
def locPy (s : Sto) : Nat → Nat → Option PyData
  | 0, _ => none
  | k + 1, n => match s[n]? with
    | some (.lst ds) => (D.pysW (locPy s k) ds).map .list
    | _ => none
def D.py (s : Sto) (d : D) : Option PyData := D.pyW (locPy s 3) d

section
variable {K : PySem.W.Frag} {p : List Addr} {H : Hp} {s : Sto}
mutual
theorem dp_of {g : Nat → Option PyData} (hg : ∀ n a z, g n = some z → p[n]? = some a → Dp K H (.ref a) z) : ∀ (d : D) {v : V} {z : PyData}, RD K p H d v → D.pyW g d = some z → Dp K H v z
  | .non, _, _, .non, e => by simp only [D.pyW] at e; cases e; exact .non
  | .bl b, _, _, .bl _, e => by simp only [D.pyW] at e; cases e; exact .bl b
  | .int b, _, _, .int _, e => by simp only [D.pyW] at e; cases e; exact .int b
  | .str b, _, _, .str _, e => by simp only [D.pyW] at e; cases e; exact .str b
  | .tup ds, _, z, .tup h r, e => by
    simp only [D.pyW] at e
    cases q : D.pysW g ds with
    | none => rw [q] at e; cases e
    | some zs =>
      rw [q] at e
      cases e
      exact .tup h (dps_of hg ds r q)
  | .loc n, _, z, .loc h, e => by simp only [D.pyW] at e; exact hg n _ z e h
  | .con v, _, _, .con _, e => by simp only [D.pyW] at e; cases e
theorem dps_of {g : Nat → Option PyData} (hg : ∀ n a z, g n = some z → p[n]? = some a → Dp K H (.ref a) z) : ∀ (ds : List D) {vs : List V} {zs : List PyData}, RDs K p H ds vs → D.pysW g ds = some zs → DpAll K H vs zs
  | [], _, _, .nil, e => by simp only [D.pysW] at e; cases e; exact .nil
  | d :: ds, _, zs, .cons h r, e => by
    simp only [D.pysW] at e
    cases q : D.pyW g d with
    | none => rw [q] at e; cases e
    | some z =>
      cases q2 : D.pysW g ds with
      | none => rw [q, q2] at e; cases e
      | some zs' =>
        rw [q, q2] at e
        cases e
        exact .cons (dp_of hg d h q) (dps_of hg ds r q2)
end
theorem locPy_dp (hs : RS K p s H) : ∀ (k n : Nat) (a : Addr) (z : PyData), locPy s k n = some z → p[n]? = some a → Dp K H (.ref a) z
  | 0, _, _, _, e, _ => by simp [locPy] at e
  | k + 1, n, a, z, e, h => by
    simp only [locPy] at e
    split at e
    · rename_i ds e1
      obtain ⟨a1, o1, q1, q2, q3⟩ := hs.mut e1
      rw [h] at q1; cases q1
      cases q3 with
      | lst r =>
        cases q : D.pysW (locPy s k) ds with
        | none => rw [q] at e; cases e
        | some zs =>
          rw [q] at e
          cases e
          exact .lst (SqL.of q2) (dps_of (locPy_dp hs k) ds r q)
    · cases e
theorem py_dp (hs : RS K p s H) {d : D} {v : V} {z : PyData} (r : RD K p H d v) (e : d.py s = some z) : Dp K H v z := dp_of (locPy_dp hs 3) d r e
end

/-- == -/
def eqB (s : Sto) (d e : D) : Option Bool := match d, e with
  | .int i, .int j => some (decide (i = j))
  | .bl i, .bl j => some (decide (i = j))
  | .str i, .str j => some (decide (i = j))
  | .non, .non => some true
  | d, e => match d.py s, e.py s with
    | some a, some b => if SeqAt.shaped a = true ∧ SeqAt.shaped b = true then some (PyData.eqv a b) else none
    | _, _ => none
def gEq : G2 := fun d e s => (eqB s d e).map fun b => (.bl b, s)
def gNe : G2 := fun d e s => (eqB s d e).map fun b => (.bl (!b), s)
def gLt : G2
  | .int i, .int j, s => some (.bl (decide (i < j)), s)
  | _, _, _ => none
def gLe : G2
  | .int i, .int j, s => some (.bl (decide (i ≤ j)), s)
  | _, _, _ => none
def gGt : G2
  | .int i, .int j, s => some (.bl (decide (j < i)), s)
  | _, _, _ => none
def gGe : G2
  | .int i, .int j, s => some (.bl (decide (j ≤ i)), s)
  | _, _, _ => none
def gIs : G2
  | .non, .non, s => some (.bl true, s)
  | .con _, .non, _ => none
  | _, .non, s => some (.bl false, s)
  | .bl a, .bl b, s => some (.bl (decide (a = b)), s)
  | _, _, _ => none
def gIsNot : G2
  | .non, .non, s => some (.bl false, s)
  | .con _, .non, _ => none
  | _, .non, s => some (.bl true, s)
  | .bl a, .bl b, s => some (.bl (!decide (a = b)), s)
  | _, _, _ => none
section
variable {X : Cx}
theorem eqB_rd {K : PySem.W.Frag} {p : List Addr} {H : Hp} {s : Sto} {d e : D} {x y : V} {b : Bool} (hs : RS K p s H) (rx : RD K p H d x) (ry : RD K p H e y) (h : eqB s d e = some b) :
    (scal x y = true ∧ b = decide (x = y)) ∨ ∃ u w, Dp K H x u ∧ Dp K H y w ∧ SeqAt.shaped u = true ∧ SeqAt.shaped w = true ∧ b = PyData.eqv u w := by
  have gen : (match d.py s, e.py s with | some a, some b => if SeqAt.shaped a = true ∧ SeqAt.shaped b = true then some (PyData.eqv a b) else none | _, _ => none) = some b →
      ∃ u w, Dp K H x u ∧ Dp K H y w ∧ SeqAt.shaped u = true ∧ SeqAt.shaped w = true ∧ b = PyData.eqv u w := fun h => by
    cases q1 : d.py s with
    | none => simp [q1] at h
    | some u =>
      cases q2 : e.py s with
      | none => simp [q1, q2] at h
      | some w =>
        simp only [q1, q2] at h
        split at h
        · rename_i hc
          cases h
          exact ⟨u, w, py_dp hs rx q1, py_dp hs ry q2, hc.1, hc.2, rfl⟩
        · cases h
  cases rx with
  | int i =>
    cases ry with
    | int j => simp only [eqB] at h; cases h; exact .inl ⟨rfl, by simp⟩
    | _ => exact .inr (gen h)
  | bl i =>
    cases ry with
    | bl j => simp only [eqB] at h; cases h; exact .inl ⟨rfl, by simp⟩
    | _ => exact .inr (gen h)
  | str i =>
    cases ry with
    | str j => simp only [eqB] at h; cases h; exact .inl ⟨rfl, by simp⟩
    | _ => exact .inr (gen h)
  | non =>
    cases ry with
    | non => simp only [eqB] at h; cases h; exact .inl ⟨rfl, by simp⟩
    | _ => exact .inr (gen h)
  | tup h1 r1 => cases ry <;> exact .inr (gen h)
  | loc h1 => cases ry <;> exact .inr (gen h)
  | con v => cases ry <;> exact .inr (gen h)
theorem op_eqDD (hu : X.A.units + 64 < cLine) : OpD X (compareOp .Eq) gEq := by
  refine OpR.imp (op_eq.or (op_eqD hu)) fun x y H Q h => ?_
  obtain ⟨p, s, d, e, z, s', hs, rx, ry, hg, hf⟩ := h
  simp only [gEq, Option.map_eq_some_iff] at hg
  obtain ⟨b, hb, hz⟩ := hg
  cases hz
  rcases eqB_rd hs rx ry hb with ⟨h1, rfl⟩ | ⟨u, w, h1, h2, h3, h4, rfl⟩
  · exact .inl ⟨h1, hf.now hs (.bl _)⟩
  · exact .inr ⟨u, w, h1, h2, h3, h4, hf.now hs (.bl _)⟩
theorem op_neDD (hu : X.A.units + 64 < cLine) : OpD X (compareOp .NotEq) gNe := by
  refine OpR.imp (op_ne.or (op_neD hu)) fun x y H Q h => ?_
  obtain ⟨p, s, d, e, z, s', hs, rx, ry, hg, hf⟩ := h
  simp only [gNe, Option.map_eq_some_iff] at hg
  obtain ⟨b, hb, hz⟩ := hg
  cases hz
  rcases eqB_rd hs rx ry hb with ⟨h1, rfl⟩ | ⟨u, w, h1, h2, h3, h4, rfl⟩
  · exact .inl ⟨h1, hf.now hs (.bl _)⟩
  · exact .inr ⟨u, w, h1, h2, h3, h4, hf.now hs (.bl _)⟩
theorem op_ltD : OpD X (compareOp .Lt) gLt := by
  refine OpR.imp op_lt fun x y H Q h => ?_
  obtain ⟨p, s, d, e, z, s', hs, rx, ry, hg, hf⟩ := h
  cases rx <;> cases ry <;> simp only [gLt] at hg <;> cases hg
  exact ⟨_, _, rfl, rfl, hf.now hs (.bl _)⟩
theorem op_leD : OpD X (compareOp .LtE) gLe := by
  refine OpR.imp op_le fun x y H Q h => ?_
  obtain ⟨p, s, d, e, z, s', hs, rx, ry, hg, hf⟩ := h
  cases rx <;> cases ry <;> simp only [gLe] at hg <;> cases hg
  exact ⟨_, _, rfl, rfl, hf.now hs (.bl _)⟩
theorem op_gtD : OpD X (compareOp .Gt) gGt := by
  refine OpR.imp op_gt fun x y H Q h => ?_
  obtain ⟨p, s, d, e, z, s', hs, rx, ry, hg, hf⟩ := h
  cases rx <;> cases ry <;> simp only [gGt] at hg <;> cases hg
  exact ⟨_, _, rfl, rfl, hf.now hs (.bl _)⟩
theorem op_geD : OpD X (compareOp .GtE) gGe := by
  refine OpR.imp op_ge fun x y H Q h => ?_
  obtain ⟨p, s, d, e, z, s', hs, rx, ry, hg, hf⟩ := h
  cases rx <;> cases ry <;> simp only [gGe] at hg <;> cases hg
  exact ⟨_, _, rfl, rfl, hf.now hs (.bl _)⟩
theorem op_isNotD : OpD X (compareOp .IsNot) gIsNot := by
  refine OpR.imp (op_notN.or op_isnot_bl) fun x y H Q h => ?_
  obtain ⟨p, s, d, e, z, s', hs, rx, ry, hg, hf⟩ := h
  cases ry with
  | non =>
    cases rx <;> simp only [gIsNot] at hg <;> cases hg
    all_goals exact .inl ⟨rfl, hf.now hs (by simpa using RD.bl _)⟩
  | bl b =>
    cases rx <;> simp only [gIsNot] at hg <;> cases hg
    exact .inr ⟨_, _, rfl, rfl, hf.now hs (.bl _)⟩
  | _ => cases rx <;> simp only [gIsNot] at hg <;> cases hg
end

/-! ### chains: a < b <= c -/
def mChain (g g' : G2) (m n o : ME) : ME := fun r s => (m r s).bind fun d s1 => (n r s1).bind fun e s2 => match g d e s2 with
  | some (.bl true, s3) => (o r s3).bind fun f s4 => R.of (g' e f s4)
  | some (.bl false, s3) => .ok (.bl false) s3
  | _ => .bad
section
variable {X : Cx} {W : WX} {pos : Pos} {a b c : Expr} {m n o : ME} {g g' : G2}
theorem de_chain {op op' : CmpOp} (ho : OpD X (compareOp op) g) (ho' : OpD X (compareOp op') g') (ha : DE X W a m) (hb : DE X W b n) (hc : DE X W c o) (hm : lastMarks [op, op'] [b, c] = false := by with_unfolding_all rfl) :
    DE X W (.Compare a [op, op'] [b, c] pos) (mChain g g' m n o) := PE.imp (pe_chain ho ho' ha hb hc hm) fun t H Q ⟨p, r, s, he, hs, q⟩ => by
  refine tE.step he hs q fun p1 H1 d v s1 e1 r1 he1 rd q1 => ?_
  refine tE.step he1 r1 q1 fun p2 H2 e u s2 e2 r2 he2 rd2 q2 => ?_
  split at q2
  · rename_i s3 hg
    refine ⟨p2, s2, d, e, .bl true, s3, r2, rd.mono e2, rd2, hg, fun p3 H3 v3 e3 r3 rd3 => ?_⟩
    cases rd3
    refine ⟨true, rfl, ?_⟩
    rw [if_pos rfl]
    refine tE.step (he2.mono e3) r3 (pR.mono e3 q2) fun p4 H4 f w s4 e4 r4 he4 rd4 q4 => ?_
    obtain ⟨z, s', hz, hf⟩ := pR.fin q4
    exact ⟨p4, s4, e, f, z, s', r4, (rd2.mono e3).mono e4, rd4, hz, hf⟩
  · rename_i s3 hg
    refine ⟨p2, s2, d, e, .bl false, s3, r2, rd.mono e2, rd2, hg, fun p3 H3 v3 e3 r3 rd3 => ?_⟩
    cases rd3
    refine ⟨false, rfl, ?_⟩
    rw [if_neg Bool.false_ne_true]
    exact q2 p3 H3 e3 r3 _ (.bl false)
  · exact q2.elim
end

/-! ### tests, and, or, not, if-else -/
def asB (m : ME) : MT := fun r s => (m r s).bind fun d s1 => match d with
  | .bl b => .ok b s1
  | _ => .bad
def ofB (m : MT) : ME := fun r s => (m r s).bind fun b s1 => .ok (.bl b) s1
/-- any value as a test -/
def truB (s : Sto) : D → Option Bool
  | .non => some false
  | .bl b => some b
  | .int i => some (i != 0)
  | .str x => if x.length ≤ sizeLine then some ((x.length : Int) != 0) else none
  | .tup ds => some (!ds.isEmpty)
  | .loc n => match s[n]? with
    | some (.lst ds) => some (!ds.isEmpty)
    | some (.dct ds) => some (!ds.isEmpty)
    | _ => none
  | .con _ => none
def asT (m : ME) : MT := fun r s => (m r s).bind fun d s1 => match truB s1 d with
  | some b => .ok b s1
  | none => .bad
def mAnd (m n : MT) : MT := fun r s => (m r s).bind fun b s1 => match b with
  | true => n r s1
  | false => .ok false s1
def mOr (m n : MT) : MT := fun r s => (m r s).bind fun b s1 => match b with
  | true => .ok true s1
  | false => n r s1
def mNot (m : MT) : MT := fun r s => (m r s).bind fun b s1 => .ok (!b) s1
def mIfE (c : MT) (m n : ME) : ME := fun r s => (c r s).bind fun b s1 => match b with
  | true => m r s1
  | false => n r s1
section
variable {K : PySem.W.Frag} {W : WX} {t : L2.St} {H : Hp}
theorem tT.step {α : Type} {m : MT} {f : Bool → Sto → R α} {p : List Addr} {r : Env} {s : Sto} {k : List Addr → Hp → α → Sto → Prop} {Q1 : Bool → Hp → Prop} (he : RE K p H r t) (hs : RS K p s H)
    (h : pR K W t p H ((m r s).bind f) k)
    (g : ∀ p1 H1 b s1, Ex p H p1 H1 → RS K p1 s1 H1 → RE K p1 H1 r t → pR K W t p1 H1 (f b s1) k → Q1 b H1) : tT K W m t H Q1 :=
  ⟨p, r, s, he, hs, (pR.bind h).imp fun p1 H1 b s1 e1 r1 q => g p1 H1 b s1 e1 r1 (he.mono e1) q⟩
theorem tE.stepK {α : Type} {m : ME} {f : D → Sto → R α} {p : List Addr} {r : Env} {s : Sto} {k : List Addr → Hp → α → Sto → Prop} {Q1 : VK} (he : RE K p H r t) (hs : RS K p s H)
    (h : pR K W t p H ((m r s).bind f) k)
    (g : ∀ p1 H1 d v s1, Ex p H p1 H1 → RS K p1 s1 H1 → RE K p1 H1 r t → RD K p1 H1 d v → pR K W t p1 H1 (f d s1) k → Q1 v H1) : tE K W m t H Q1 :=
  ⟨p, r, s, he, hs, (pR.bind h).imp fun p1 H1 d s1 e1 r1 q v rv => g p1 H1 d v s1 e1 r1 (he.mono e1) rv q⟩
end
section
variable {X : Cx} {W : WX} {pos : Pos} {a b c : Expr} {m n : ME} {u w : MT} {rest : List Expr}
/-- an expression that gives a bool -/
theorem dt_val (ha : DE X W a m) (he : ∀ whole, isTrue a X.env whole = (do let v ← whole; standAt a.pos; holding [v] (truthy v)) := by intro _; rfl) : DT X W a (asB m) := PT.imp (pt_val ha he) fun t H Q ⟨p, r, s, he, hs, q⟩ => by
  refine tE.stepK he hs q fun p1 H1 d v s1 e1 r1 he1 rd q1 => ?_
  cases rd <;> try (exact (show False from q1).elim)
  exact ⟨_, rfl, q1 p1 H1 .refl r1⟩
theorem tru_D {K : PySem.W.Frag} {p : List Addr} {s : Sto} {d : D} {v : V} {k : Bool} (hs : RS K p s H) (rd : RD K p H d v) (h : truB s d = some k) : TruV K v H k := by
  cases rd with
  | non => simp [truB] at h; simp [TruV, h]
  | bl b => simp [truB] at h; simp [TruV, h]
  | int i => simp only [truB] at h; cases h; simp [TruV]
  | str x => simp only [truB] at h; split at h <;> cases h; rename_i hl; exact ⟨hl, rfl⟩
  | tup h1 r1 =>
    simp only [truB] at h; cases h
    refine .inr (.inl ⟨_, h1, ?_⟩)
    cases r1 <;> rfl
  | con v => simp [truB] at h
  | loc h1 =>
    simp only [truB] at h
    split at h
    · rename_i ds e1
      obtain ⟨a1, o1, q1, q2, q3⟩ := hs.mut e1
      rw [h1] at q1; cases q1
      cases h
      cases q3 with
      | lst r => exact .inl ⟨_, SqL.of q2, by cases r <;> rfl⟩
    · rename_i ds e1
      obtain ⟨a1, o1, q1, q2, q3⟩ := hs.mut e1
      rw [h1] at q1; cases q1
      cases h
      cases q3 with
      | dct r => exact .inr (.inr ⟨_, q2, by cases r <;> rfl⟩)
    · cases h
theorem dt_tru (ha : DE X W a m) (he : ∀ whole, isTrue a X.env whole = (do let v ← whole; standAt a.pos; holding [v] (truthy v)) := by intro _; rfl) : DT X W a (asT m) := PT.imp (pt_truth ha he) fun t H Q ⟨p, r, s, he, hs, q⟩ => by
  refine tE.stepK he hs q fun p1 H1 d v s1 e1 r1 he1 rd q1 => ?_
  split at q1
  · rename_i k hk
    exact ⟨k, tru_D r1 rd hk, q1 p1 H1 .refl r1⟩
  · exact q1.elim
theorem dt_not (ha : DT X W a u) : DT X W (.UnaryOp .Not a pos) (mNot u) := PT.imp (pt_not ha) fun t H Q ⟨p, r, s, he, hs, q⟩ =>
  tT.step he hs q fun p1 H1 b s1 e1 r1 he1 q1 => q1 p1 H1 .refl r1
abbrev DW (X : Cx) (W : WX) (e : Expr) (m : MT) : Prop := PW X e (tT X.K W m)
theorem PW.imp {e : Expr} {t t' : TT} (h : PW X e t) (f : ∀ σ H Q, t' σ H Q → t σ H Q) : PW X e t' := ⟨fun wh pins s σ H Q I q => h.run wh pins s σ H Q I (f σ H Q q)⟩
theorem dw_and1 (ha : DT X W a u) : DW X W (.BoolOp .And [a] pos) u := pw_and1 ha
theorem dw_or1 (ha : DT X W a u) : DW X W (.BoolOp .Or [a] pos) u := pw_or1 ha
theorem tAnd_of {t : L2.St} {H : Hp} {Q : Bool → Hp → Prop} (q : tT X.K W (mAnd u w) t H Q) : tAnd (tT X.K W u) (tT X.K W w) t H Q := by
  obtain ⟨p, r, s, he, hs, q⟩ := q
  refine tT.step he hs q fun p1 H1 b s1 e1 r1 he1 q1 => ?_
  cases b with
  | true => rw [if_pos rfl]; exact ⟨p1, r, s1, he1, r1, q1⟩
  | false => rw [if_neg Bool.false_ne_true]; exact q1 p1 H1 .refl r1
theorem tOr_of {t : L2.St} {H : Hp} {Q : Bool → Hp → Prop} (q : tT X.K W (mOr u w) t H Q) : tOr (tT X.K W u) (tT X.K W w) t H Q := by
  obtain ⟨p, r, s, he, hs, q⟩ := q
  refine tT.step he hs q fun p1 H1 b s1 e1 r1 he1 q1 => ?_
  cases b with
  | true => rw [if_pos rfl]; exact q1 p1 H1 .refl r1
  | false => rw [if_neg Bool.false_ne_true]; exact ⟨p1, r, s1, he1, r1, q1⟩
theorem dw_and (ha : DT X W a u) (hb : DW X W (.BoolOp .And (b :: rest) pos) w) : DW X W (.BoolOp .And (a :: b :: rest) pos) (mAnd u w) := PW.imp (pw_and ha hb) fun _ _ _ q => tAnd_of q
theorem dw_or (ha : DT X W a u) (hb : DW X W (.BoolOp .Or (b :: rest) pos) w) : DW X W (.BoolOp .Or (a :: b :: rest) pos) (mOr u w) := PW.imp (pw_or ha hb) fun _ _ _ q => tOr_of q
/-- as values, bools -/
theorem de_and (ha : DE X W a m) (hb : DE X W (.BoolOp .And (b :: rest) pos) n) : DE X W (.BoolOp .And (a :: b :: rest) pos) (mIfE (asB m) n (mC (.bl false))) := PE.imp (pe_and ha hb) fun t H Q ⟨p, r, s, he, hs, q⟩ => by
  have q' : pR X.K W t p H ((m r s).bind fun d s1 => ((match d with | .bl b => R.ok b s1 | _ => R.bad) : R Bool).bind fun b s1 => match b with | true => n r s1 | false => mC (.bl false) r s1) fun p' H' d _ => ∀ v, RD X.K p' H' d v → Q v H' := by
    have e : mIfE (asB m) n (mC (.bl false)) r s = (m r s).bind fun d s1 => ((match d with | .bl b => R.ok b s1 | _ => R.bad) : R Bool).bind fun b s1 => match b with | true => n r s1 | false => mC (.bl false) r s1 := by
      simp only [mIfE, asB]
      cases m r s <;> rfl
    rw [← e]; exact q
  refine tE.stepK he hs q' fun p1 H1 d v s1 e1 r1 he1 rd q1 => ?_
  cases rd <;> try (exact (show False from q1).elim)
  rename_i b
  refine ⟨b, rfl, ?_⟩
  cases b with
  | true => rw [if_pos rfl]; exact ⟨p1, r, s1, he1, r1, q1⟩
  | false => rw [if_neg Bool.false_ne_true]; exact q1 p1 H1 .refl r1 _ (.bl false)
theorem de_one {op : PySem.BoolOp} (h : DE X W a m) : DE X W (.BoolOp op [a] pos) m := pe_one h
theorem de_not (ha : DE X W a m) : DE X W (.UnaryOp .Not a pos) (ofB (mNot (asB m))) := PE.imp (pe_not ha) fun t H Q ⟨p, r, s, he, hs, q⟩ => by
  have q' : pR X.K W t p H ((m r s).bind fun d s1 => (match d with | .bl b => R.ok (D.bl (!b)) s1 | _ => R.bad)) fun p' H' d _ => ∀ v, RD X.K p' H' d v → Q v H' := by
    have e : ofB (mNot (asB m)) r s = (m r s).bind fun d s1 => (match d with | .bl b => R.ok (D.bl (!b)) s1 | _ => R.bad) := by
      simp only [ofB, mNot, asB]
      cases m r s with
      | ok d s1 => cases d <;> rfl
      | exc _ _ => rfl
      | bad => rfl
    rw [← e]; exact q
  refine tE.stepK he hs q' fun p1 H1 d v s1 e1 r1 he1 rd q1 => ?_
  cases rd <;> try (exact (show False from q1).elim)
  exact ⟨_, rfl, q1 p1 H1 .refl r1 _ (.bl _)⟩
theorem de_ifExp (hc : DT X W c u) (ha : DE X W a m) (hb : DE X W b n) : DE X W (.IfExp c a b pos) (mIfE u m n) := PE.imp (pe_ifExp hc ha hb) fun t H Q ⟨p, r, s, he, hs, q⟩ => by
  refine tT.step he hs q fun p1 H1 b s1 e1 r1 he1 q1 => ?_
  cases b with
  | true => rw [if_pos rfl]; exact ⟨p1, r, s1, he1, r1, q1⟩
  | false => rw [if_neg Bool.false_ne_true]; exact ⟨p1, r, s1, he1, r1, q1⟩
end
/-! ### one place -/
def mNeg (m : ME) : ME := fun r s => (m r s).bind fun d s1 => match d with
  | .int i => .ok (.int (-i)) s1
  | _ => .bad
theorem de_neg {X : Cx} {W : WX} {pos : Pos} {a : Expr} {m : ME} (ha : DE X W a m) : DE X W (.UnaryOp .USub a pos) (mNeg m) := PE.imp (pe_un un_neg ha) fun t H Q ⟨p, r, s, he, hs, q⟩ => by
  refine tE.stepK he hs q fun p1 H1 d v s1 e1 r1 he1 rd q1 => ?_
  cases rd <;> try (exact (show False from q1).elim)
  exact ⟨_, rfl, q1 p1 H1 .refl r1 _ (.int _)⟩
end DL
end
/-! ### DL4 -/
section
set_option linter.all false
set_option maxRecDepth 100000
/-! DL4: argument lists, displays, calls of built-ins and defs, attributes, subscripts. -/
namespace DL
open PySem PySem.Spec L2
open PyProof.Rows hiding St
variable [Tbs]

/-! ### lists of expressions -/
def mNil : MA := fun _ s => .ok [] s
def mCons (m : ME) (ma : MA) : MA := fun r s => (m r s).bind fun d s1 => (ma r s1).bind fun ds s2 => .ok (d :: ds) s2
section
variable {X : Cx} {W : WX} {pos : Pos} {e : Expr} {es : List Expr} {m : ME} {ma : MA}
theorem da_nil : DA X W [] mNil := PA.imp pa_nil fun t H Q ⟨p, r, s, he, hs, q⟩ => q p H .refl hs [] .nil
theorem da_cons (ha : DE X W e m) (hr : DA X W es ma) (hs : starEach (e :: es) X.env = (false, eval e X.env) :: starEach es X.env := by rfl) : DA X W (e :: es) (mCons m ma) := PA.imp (pa_cons ha hr hs) fun t H Q ⟨p, r, s, he, hs, q⟩ => by
  refine tE.stepK he hs q fun p1 H1 d v s1 e1 r1 he1 rd q1 => ?_
  refine ⟨p1, r, s1, he1, r1, (pR.bind q1).imp fun p2 H2 ds s2 e2 r2 q2 vs rds => ?_⟩
  exact q2 p2 H2 .refl r2 _ (.cons (rd.mono e2) rds)
/-- a tuple -/
def mTup (ma : MA) : ME := fun r s => (ma r s).bind fun ds s1 => if ds.length ≤ sizeLine then .ok (.tup ds) s1 else .bad
/-- a list's items -/
def mLst (ma : MA) : MA := fun r s => (ma r s).bind fun ds s1 => if ds.length ≤ sizeLine then .ok ds s1 else .bad
/-- a list just made goes into the store -/
def mNew (ma : MA) : ME := fun r s => (ma r s).bind fun ds s1 => .ok (.loc s1.length) (s1 ++ [.lst ds])
theorem de_tup {x1 : Nat} (h : DA X W es ma) : DE X W (.Tuple es x1 pos) (mTup ma) := PE.imp (pe_tup h) fun t H Q ⟨p, r, s, he, hs, q⟩ => by
  refine ⟨p, r, s, he, hs, (pR.bind q).imp fun p1 H1 ds s1 e1 r1 q1 vs rds => ?_⟩
  split at q1
  · rename_i hl
    refine ⟨by rw [← rds.length]; exact hl, fun a ha => ?_⟩
    exact q1 p1 _ (ex_new0 ha) (r1.beside ha) _ (.tup (SqT.of upd_same) (rds.mono (ex_new0 ha)))
  · exact q1.elim
theorem dl_lst (h : DA X W es ma) : DLs X W (.List es pos) (mLst ma) := PE.imp (pe_lst h) fun t H Q ⟨p, r, s, he, hs, q⟩ => by
  refine ⟨p, r, s, he, hs, (pR.bind q).imp fun p1 H1 ds s1 e1 r1 q1 vs rds => ?_⟩
  split at q1
  · rename_i hl
    refine ⟨by rw [← rds.length]; exact hl, fun a ha => ?_⟩
    exact q1 p1 H1 .refl r1 a vs ha rds
  · exact q1.elim
theorem de_new (h : DLs X W e ma) : DE X W e (mNew ma) := PE.imp h fun t H Q ⟨p, r, s, he, hs, q⟩ => by
  refine ⟨p, r, s, he, hs, (pR.bind q).imp fun p1 H1 ds s1 e1 r1 q1 a vs ha rds => ?_⟩
  exact q1 (p1 ++ [a]) _ (ex_new ha) (r1.push ha (.lst (rds.mono (ex_new ha)))) _ (.loc (by rw [← r1.len]; simp))
/-! ### built-in functions -/
def mCallB (g : GF) (ma : MA) : ME := fun r s => (ma r s).bind fun ds s1 => R.of (g ds s1)
theorem tCB_of {g : GF} {t : L2.St} {H : Hp} {Q : VK} (q : tE X.K W (mCallB g ma) t H Q) :
    tCB (fun vs H Q => ∃ p s ds z s', RS X.K p s H ∧ RDs X.K p H ds vs ∧ g ds s = some (z, s') ∧ Fin X.K p H z s' Q) (tA X.K W ma) t H Q := by
  obtain ⟨p, r, s, he, hs, q⟩ := q
  refine ⟨p, r, s, he, hs, (pR.bind q).imp fun p1 H1 ds s1 e1 r1 q1 vs rds => ?_⟩
  obtain ⟨z, s', hz, hf⟩ := pR.fin q1
  exact ⟨p1, s1, ds, z, s', r1, rds, hz, hf⟩
theorem de_callB {x : Str} {id : String} {g : GF} {p : Pos} (hc : CallD X (.builtin id) g) (hg : Gl X x) (hm : X.mg x = none) (hv : bootBuiltins x = some (.builtin id)) (ha : DA X W (e :: es) ma) (hn : x ≠ "__name__" := by decide) (hdb : (x == ("__debug__" : Str)) = false := by decide)
    (he : starEach (e :: es) X.env = (false, eval e X.env) :: starEach es X.env := by rfl) (hpl : (backTo pos (starEach es X.env)).any (·.1) = false := by rfl) : DE X W (.Call (.Name x p) (e :: es) [] pos) (mCallB g ma) :=
  PE.imp (pe_callB hc hg hm hv ha hn hdb he hpl) fun _ _ _ q => tCB_of q
theorem de_callTy {x : Str} {T : String} {g : GF} {p : Pos} (hc : CallD X (.type T) g) (hg : Gl X x) (hm : X.mg x = none) (hv : bootBuiltins x = some (.type T)) (ha : DA X W (e :: es) ma) (hn : x ≠ "__name__" := by decide) (hdb : (x == ("__debug__" : Str)) = false := by decide)
    (he : starEach (e :: es) X.env = (false, eval e X.env) :: starEach es X.env := by rfl) (hpl : (backTo pos (starEach es X.env)).any (·.1) = false := by rfl) : DE X W (.Call (.Name x p) (e :: es) [] pos) (mCallB g ma) :=
  PE.imp (pe_callTy hc hg hm hv ha hn hdb he hpl) fun _ _ _ q => tCB_of q
end

/-! ### built-ins over the items of a list -/
/-- f(l) by l's items -/
def CallLD (X : Cx) (f : Value) (g : List D → Option D) : Prop := CallR X f (fun vs H Q => ∃ a us p s ds z, vs = [.ref a] ∧ SqL X.K H a us ∧ RS X.K p s H ∧ RDs X.K p H ds us ∧ g ds = some z ∧ Fin X.K p H z s Q)
/-- f(t) by a tuple's -/
def CallTD (X : Cx) (f : Value) (g : List D → Option D) : Prop := CallR X f (fun vs H Q => ∃ a us p s ds z, vs = [.ref a] ∧ SqT X.K H a us ∧ RS X.K p s H ∧ RDs X.K p H ds us ∧ g ds = some z ∧ Fin X.K p H z s Q)
def itL (s : Sto) : D → Option (List D)
  | .loc n => match s[n]? with
    | some (.lst ds) => some ds
    | _ => none
  | _ => none
def itT : D → Option (List D)
  | .tup ds => some ds
  | _ => none
def itS (s : Sto) (d : D) : Option (List D) := match d with
  | .tup ds => some ds
  | d => itL s d
/-- over a list of the store; over a tuple; over either -/
def gL (g : List D → Option D) : GF := fun ds s => match ds with
  | [d] => (itL s d).bind fun xs => (g xs).map fun z => (z, s)
  | _ => none
def gT (g : List D → Option D) : GF := fun ds s => match ds with
  | [d] => (itT d).bind fun xs => (g xs).map fun z => (z, s)
  | _ => none
def gS (g : List D → Option D) : GF := fun ds s => match ds with
  | [d] => (itS s d).bind fun xs => (g xs).map fun z => (z, s)
  | _ => none
section
variable {X : Cx} {W : WX} {pos : Pos} {e : Expr} {f : Value} {g : List D → Option D} {ma : MA}
theorem itL_rd {K : PySem.W.Frag} {p : List Addr} {H : Hp} {s : Sto} {d : D} {v : V} {xs : List D} (hs : RS K p s H) (r : RD K p H d v) (h : itL s d = some xs) : ∃ a us, v = .ref a ∧ H a = some (.lst us) ∧ RDs K p H xs us := by
  cases r <;> simp only [itL] at h <;> try (cases h; done)
  rename_i n a h1
  split at h
  · rename_i ds e1
    cases h
    obtain ⟨a1, o1, q1, q2, q3⟩ := hs.mut e1
    rw [h1] at q1; cases q1
    cases q3 with
    | lst r => exact ⟨a, _, rfl, q2, r⟩
  · cases h
theorem itT_rd {K : PySem.W.Frag} {p : List Addr} {H : Hp} {d : D} {v : V} {xs : List D} (r : RD K p H d v) (h : itT d = some xs) : ∃ a us, v = .ref a ∧ SqT K H a us ∧ RDs K p H xs us := by
  cases r <;> simp only [itT] at h <;> try (cases h; done)
  rename_i h1 r1
  cases h
  exact ⟨_, _, rfl, h1, r1⟩
theorem CallLD.d (h : CallLD X f g) : CallD X f (gL g) := CallR.imp h fun vs H Q ⟨p, s, ds, z, s', hs, rds, hg, hf⟩ => by
  cases rds with
  | nil => simp [gL] at hg
  | cons rd rr =>
    cases rr with
    | cons _ _ => simp [gL] at hg
    | nil =>
      simp only [gL, Option.bind_eq_some_iff, Option.map_eq_some_iff] at hg
      obtain ⟨xs, h1, z1, h2, h3⟩ := hg
      cases h3
      obtain ⟨a, us, rfl, h4, h5⟩ := itL_rd hs rd h1
      exact ⟨a, us, p, s, xs, z, rfl, SqL.of h4, hs, h5, h2, hf⟩
theorem CallTD.d (h : CallTD X f g) : CallD X f (gT g) := CallR.imp h fun vs H Q ⟨p, s, ds, z, s', hs, rds, hg, hf⟩ => by
  cases rds with
  | nil => simp [gT] at hg
  | cons rd rr =>
    cases rr with
    | cons _ _ => simp [gT] at hg
    | nil =>
      simp only [gT, Option.bind_eq_some_iff, Option.map_eq_some_iff] at hg
      obtain ⟨xs, h1, z1, h2, h3⟩ := hg
      cases h3
      obtain ⟨a, us, rfl, h4, h5⟩ := itT_rd rd h1
      exact ⟨a, us, p, s, xs, z, rfl, h4, hs, h5, h2, hf⟩
theorem CallLD.both (h : CallLD X f g) (h' : CallTD X f g) : CallD X f (gS g) := CallR.imp (h.d.or h'.d) fun vs H Q ⟨p, s, ds, z, s', hs, rds, hg, hf⟩ => by
  cases rds with
  | nil => simp [gS] at hg
  | cons rd rr =>
    cases rr with
    | cons _ _ => simp [gS] at hg
    | nil =>
      simp only [gS, Option.bind_eq_some_iff, Option.map_eq_some_iff] at hg
      obtain ⟨xs, h1, z1, h2, h3⟩ := hg
      cases h3
      cases rd with
      | tup ht rt =>
        simp only [itS] at h1
        exact .inr ⟨p, s, _, z, s, hs, .cons (.tup ht rt) .nil, by simp [gT, itT]; cases h1; exact h2, hf⟩
      | loc hl => exact .inl ⟨p, s, _, z, s, hs, .cons (.loc hl) .nil, by simp only [itS] at h1; simp [gL, h1, h2], hf⟩
      | non => simp [itS, itL] at h1
      | bl => simp [itS, itL] at h1
      | int => simp [itS, itL] at h1
      | str => simp [itS, itL] at h1
      | con => simp [itS, itL] at h1
/-- f([..]), the list just made and forgotten -/
def mCallF (g : List D → Option D) (ma : MA) : ME := fun r s => (ma r s).bind fun ds s1 => match g ds with
  | some z => .ok z s1
  | none => .bad
theorem tCF_of {t : L2.St} {H : Hp} {Q : VK} (q : tE X.K W (mCallF g ma) t H Q) :
    tCB (fun vs H Q => ∃ a us p s ds z, vs = [.ref a] ∧ SqL X.K H a us ∧ RS X.K p s H ∧ RDs X.K p H ds us ∧ g ds = some z ∧ Fin X.K p H z s Q) (tCons (tL X.K W ma) tNil) t H Q := by
  obtain ⟨p, r, s, he, hs, q⟩ := q
  refine ⟨p, r, s, he, hs, (pR.bind q).imp fun p1 H1 ds s1 e1 r1 q1 a vs ha rds => ?_⟩
  split at q1
  · rename_i z hz
    exact ⟨a, vs, p1, s1, ds, z, rfl, SqL.of upd_same, r1.beside ha, rds.mono (ex_new0 ha), hz, fun p' H' v e r rd => q1 p' H' ((ex_new0 ha).trans e) r v rd⟩
  · exact q1.elim
theorem de_callBF {x : Str} {id : String} {p : Pos} (hc : CallLD X (.builtin id) g) (hg : Gl X x) (hm : X.mg x = none) (hv : bootBuiltins x = some (.builtin id)) (ha : DLs X W e ma) (hn : x ≠ "__name__" := by decide) (hdb : (x == ("__debug__" : Str)) = false := by decide)
    (he : starEach (e :: []) X.env = (false, eval e X.env) :: starEach [] X.env := by rfl) (hpl : (backTo pos (starEach [] X.env)).any (·.1) = false := by rfl) : DE X W (.Call (.Name x p) [e] [] pos) (mCallF g ma) :=
  PE.imp (pe_callB hc hg hm hv (pa_cons ha pa_nil he) hn hdb he hpl) fun _ _ _ q => tCF_of q
end

/-! ### the built-ins -/
def boolsD : List D → Option (List Bool)
  | [] => some []
  | .bl b :: ds => (boolsD ds).map (b :: ·)
  | _ :: _ => none
def intsD : List D → Option (List Int)
  | [] => some []
  | .int b :: ds => (intsD ds).map (b :: ·)
  | _ :: _ => none
theorem boolsD_eq : ∀ {ds : List D} {bs : List Bool}, boolsD ds = some bs → ds = bs.map .bl
  | [], _, e => by simp only [boolsD] at e; cases e; rfl
  | .bl b :: ds, bs, e => by
    simp only [boolsD, Option.map_eq_some_iff] at e
    obtain ⟨bs', h, rfl⟩ := e
    rw [boolsD_eq h]; rfl
  | .non :: _, _, e => by simp [boolsD] at e
  | .int _ :: _, _, e => by simp [boolsD] at e
  | .str _ :: _, _, e => by simp [boolsD] at e
  | .tup _ :: _, _, e => by simp [boolsD] at e
  | .loc _ :: _, _, e => by simp [boolsD] at e
  | .con _ :: _, _, e => by simp [boolsD] at e
theorem intsD_eq : ∀ {ds : List D} {bs : List Int}, intsD ds = some bs → ds = bs.map .int
  | [], _, e => by simp only [intsD] at e; cases e; rfl
  | .int b :: ds, bs, e => by
    simp only [intsD, Option.map_eq_some_iff] at e
    obtain ⟨bs', h, rfl⟩ := e
    rw [intsD_eq h]; rfl
  | .non :: _, _, e => by simp [intsD] at e
  | .bl _ :: _, _, e => by simp [intsD] at e
  | .str _ :: _, _, e => by simp [intsD] at e
  | .tup _ :: _, _, e => by simp [intsD] at e
  | .loc _ :: _, _, e => by simp [intsD] at e
  | .con _ :: _, _, e => by simp [intsD] at e
@[simp] theorem boolsD_map : ∀ bs : List Bool, boolsD (bs.map .bl) = some bs
  | [] => rfl
  | b :: bs => by simp [boolsD, boolsD_map bs]
@[simp] theorem intsD_map : ∀ bs : List Int, intsD (bs.map .int) = some bs
  | [] => rfl
  | b :: bs => by simp [intsD, intsD_map bs]
def gAll (ds : List D) : Option D := (boolsD ds).map fun bs => .bl (bs.all id)
def gAbs : GF
  | [.int i], s => some (.int (if i < 0 then -i else i), s)
  | _, _ => none
def gInt : GF
  | [.int i], s => some (.int i, s)
  | [.bl b], s => some (.int (if b then 1 else 0), s)
  | _, _ => none
def lenD (s : Sto) : D → Option Nat
  | .str x => if x.length ≤ sizeLine then some x.length else none
  | .tup ds => some ds.length
  | .loc n => match s[n]? with
    | some (.lst ds) => some ds.length
    | some (.dct ds) => some ds.length
    | _ => none
  | _ => none
def gLen : GF
  | [d], s => (lenD s d).map fun n => (.int n, s)
  | _, _ => none
section
variable {X : Cx}
theorem ca_all (hc : X.calm = true) : CallLD X (.builtin "all") gAll := CallR.imp (cr_all hc) fun vs H Q ⟨a, us, p, s, ds, z, e, h1, hs, h2, hg, hf⟩ => by
  simp only [gAll, Option.map_eq_some_iff] at hg
  obtain ⟨bs, hb, rfl⟩ := hg
  cases boolsD_eq hb
  cases h2.bls
  exact ⟨a, bs, e, h1, hf.now hs (.bl _)⟩
theorem one_rd {K : PySem.W.Frag} {p : List Addr} {H : Hp} {d : D} {vs : List V} (r : RDs K p H [d] vs) : ∃ v, vs = [v] ∧ RD K p H d v := by
  cases r with
  | cons h r => cases r; exact ⟨_, rfl, h⟩
theorem two_rd {K : PySem.W.Frag} {p : List Addr} {H : Hp} {d e : D} {vs : List V} (r : RDs K p H [d, e] vs) : ∃ v w, vs = [v, w] ∧ RD K p H d v ∧ RD K p H e w := by
  cases r with
  | cons h r =>
    cases r with
    | cons h2 r => cases r; exact ⟨_, _, rfl, h, h2⟩
theorem ca_abs : CallD X (.builtin "abs") gAbs := CallR.imp call_abs fun vs H Q ⟨p, s, ds, z, s', hs, rds, hg, hf⟩ => by
  unfold gAbs at hg
  split at hg <;> cases hg
  obtain ⟨v, rfl, rd⟩ := one_rd rds
  cases rd
  exact ⟨_, rfl, hf.now hs (.int _)⟩
theorem ca_int : CallD X (.type "int") gInt := CallR.imp call_int1 fun vs H Q ⟨p, s, ds, z, s', hs, rds, hg, hf⟩ => by
  unfold gInt at hg
  split at hg <;> cases hg
  · obtain ⟨v, rfl, rd⟩ := one_rd rds
    cases rd
    exact .inl ⟨_, rfl, hf.now hs (.int _)⟩
  · obtain ⟨v, rfl, rd⟩ := one_rd rds
    cases rd
    exact .inr ⟨_, rfl, hf.now hs (.int _)⟩
theorem ca_len (hc : X.calm = true) : CallD X (.builtin "len") gLen := CallR.imp (call_len.or call_lenD) fun vs H Q ⟨p, s, ds, z, s', hs, rds, hg, hf⟩ => by
  unfold gLen at hg
  split at hg
  · obtain ⟨v, rfl, rd⟩ := one_rd rds
    simp only [Option.map_eq_some_iff] at hg
    obtain ⟨n, hn, hz⟩ := hg
    cases hz
    cases rd with
    | non => simp [lenD] at hn
    | bl b => simp [lenD] at hn
    | int b => simp [lenD] at hn
    | con b => simp [lenD] at hn
    | str x =>
      simp only [lenD] at hn
      split at hn
      · rename_i hl
        cases hn
        exact .inl ⟨_, _, rfl, ⟨hl, rfl⟩, hf.now hs (.int _)⟩
      · cases hn
    | tup h1 r1 =>
      simp only [lenD] at hn
      cases hn
      exact .inl ⟨_, _, rfl, .inr ⟨_, h1, r1.length⟩, hf.now hs (.int _)⟩
    | loc h1 =>
      simp only [lenD] at hn
      split at hn
      · rename_i ds e1
        cases hn
        obtain ⟨a1, o1, q1, q2, q3⟩ := hs.mut e1
        rw [h1] at q1; cases q1
        cases q3 with
        | lst r => exact .inl ⟨_, _, rfl, .inl ⟨_, SqL.of q2, r.length⟩, hf.now hs (.int _)⟩
      · rename_i ds e1
        cases hn
        obtain ⟨a1, o1, q1, q2, q3⟩ := hs.mut e1
        rw [h1] at q1; cases q1
        cases q3 with
        | dct r => exact .inr ⟨_, _, rfl, q2, by have := hf.now hs (.int _); rw [← r.length]; exact this⟩
      · cases hn
  · cases hg
end
end DL
end
/-! ### DL5 -/
section
set_option linter.all false
set_option maxRecDepth 100000
/-! DL5: defs and methods called, objects made, attributes, subscripts, slices, isinstance. -/
namespace DL
open PySem PySem.Spec L2
open PyProof.Rows hiding St
variable [Tbs]

/-! ### calls -/
def pF (K : PySem.W.Frag) (p : List Addr) (H : Hp) (r : R D) (Q : VK) (E : XK) : Prop := match r with
  | .ok d s => Fin K p H d s Q
  | .exc e s => ∀ p' H' d, Ex p H p' H' → RS K p' s H' → RX K p' H' e d → E (.ref e.cls) d H'
  | .bad => False
/-- a def's promise by its mirror -/
def spD (K : PySem.W.Frag) (n : Nat) (f : MF) : Sp := fun vs H Q E => ∃ p s ds, ds.length = n ∧ RS K p s H ∧ RDs K p H ds vs ∧ pF K p H (f ds s) Q E
abbrev FnD (P : Program) (w : World) (K : PySem.W.Frag) (mg : Str → Option Value) (base : Heap) (k : Nat) (f : Addr) (fd : FuncData) (ps : List Str) (m : MF) : Prop := FnOk P w K mg base (L2.CX P w) k f fd ps (spD K ps.length m)
def mCall (f : MF) (ma : MA) : ME := fun r s => (ma r s).bind f
def mCall0 (f : MF) : ME := fun _ s => f [] s
def mMeth (C : Addr) (m : Str) (f : MF) (mo : ME) (ma : MA) : ME := fun r s => (mo r s).bind fun d s1 => match d with
  | .loc n => match s1[n]? with
    | some (.ins C' fs) => if C' = C ∧ fs.lookup m = none then (ma r s1).bind fun ds s2 => f (.loc n :: ds) s2 else .bad
    | _ => .bad
  | _ => .bad
def mMake (C : Addr) (f : MF) (ma : MA) : ME := fun r s => (ma r s).bind fun ds s1 => (f (.loc s1.length :: ds) (s1 ++ [.ins C []])).bind fun d s2 => match d with
  | .non => .ok (.loc s1.length) s2
  | _ => .bad
section
variable {X : Cx} {W : WX} {pos : Pos} {e o : Expr} {es : List Expr} {ma : MA} {mo : ME} {k : Nat} {f C : Addr} {fd : FuncData} {ps : List Str} {m : MF} {x mn : Str} {p apos : Pos}
theorem pF_of {K : PySem.W.Frag} {W : WX} {t : L2.St} {p : List Addr} {H : Hp} {Q : VK} {r : R D} (q : pR K W t p H r fun p' H' d _ => ∀ v, RD K p' H' d v → Q v H') : pF K p H r Q (fun c d H => W c d t H) := by
  cases r with
  | ok d s => exact fun p' H' v e r rd => q p' H' e r v rd
  | exc e s => exact q
  | bad => exact q
theorem de_call (F : FnD X.prog X.w X.K X.mg X.base k f fd ps m) (hr : Room k X.A) (tk : Takes X W) (hg : Gl X x) (hm : X.mg x = some (.ref f)) (hk : PySem.W.keepIn X.K (.ref f) = true) (hb : Binds X.K fd ps []) (hlen : (e :: es).length = ps.length) (ha : DA X W (e :: es) ma) (hdb : (x == ("__debug__" : Str)) = false := by decide)
    (hma : ∀ r s ds s', ma r s = .ok ds s' → ds.length = ps.length) (he : starEach (e :: es) X.env = (false, eval e X.env) :: starEach es X.env := by rfl) (hpl : (backTo pos (starEach es X.env)).any (·.1) = false := by rfl) :
    DE X W (.Call (.Name x p) (e :: es) [] pos) (mCall m ma) :=
  PE.imp (pe_callS (E := WE W) F hr hg hm hk hb (fun σ => passAt tk σ) ha hdb he hpl) fun t H Q ⟨p, r, s, hre, hs, q⟩ => by
    refine ⟨p, r, s, hre, hs, ?_⟩
    cases hq : ma r s with
    | ok ds s1 =>
      simp only [mCall, hq, R.bind_ok] at q
      exact fun p1 H1 e1 r1 vs rds => ⟨p1, s1, ds, hma r s ds s1 hq, r1, rds, pF_of (pR.mono e1 q)⟩
    | exc e s1 => simp only [mCall, hq, R.bind_exc] at q; exact q
    | bad => simp only [mCall, hq, R.bind_bad] at q; exact q
theorem len_cons {m1 : ME} {n : Nat} (h : ∀ r s ds s', ma r s = .ok ds s' → ds.length = n) : ∀ r s ds s', mCons m1 ma r s = .ok ds s' → ds.length = n + 1 := by
  intro r s ds s' e
  simp only [mCons] at e
  cases h1 : m1 r s with
  | ok d s1 =>
    cases h2 : ma r s1 with
    | ok ds2 s2 => simp only [h1, h2, R.bind_ok] at e; cases e; simp [h _ _ _ _ h2]
    | exc _ _ => simp [h1, h2] at e
    | bad => simp [h1, h2] at e
  | exc _ _ => simp [h1] at e
  | bad => simp [h1] at e
theorem len_nil : ∀ (r : Env) (s : Sto) ds s', mNil r s = .ok ds s' → ds.length = 0 := by
  intro r s ds s' e
  simp only [mNil] at e; cases e; rfl
/-- o.m(..) -/
theorem ins_rd {K : PySem.W.Frag} {p : List Addr} {H : Hp} {s : Sto} {n : Nat} {v : V} {C : Addr} {fs : List (Str × D)} (hs : RS K p s H) (r : RD K p H (.loc n) v) (h : s[n]? = some (.ins C fs)) : ∃ a dx us, v = .ref a ∧ H a = some (.ins C dx us) ∧ RF K p H fs us ∧ p[n]? = some a := by
  cases r with
  | loc h1 =>
    obtain ⟨a1, o1, q1, q2, q3⟩ := hs.mut h
    rw [h1] at q1; cases q1
    cases q3 with
    | ins _ r => exact ⟨_, _, _, rfl, q2, r, h1⟩
theorem own_rd {K : PySem.W.Frag} {p : List Addr} {H : Hp} {s : Sto} {n : Nat} {C : Addr} {v : V} {fs : List (Str × D)} (hs : RS K p s H) (r : RD K p H (.loc n) v) (h : s[n]? = some (.ins C fs)) : OwnC K C := by
  cases r with
  | loc h1 =>
    obtain ⟨a1, o1, q1, q2, q3⟩ := hs.mut h
    cases q3 with
    | ins q _ => exact q
theorem de_meth {pl : Sem Bool} (ho : DE X W o mo) (c : Cls X.K C) (hm : Meth X.K C mn f) (F : FnD X.prog X.w X.K X.mg X.base k f fd ps m) (hr : Room k X.A) (tk : Takes X W) (hb : Binds X.K fd ps []) (ha : DA X W (e :: es) ma)
    (hma : ∀ r s ds s', ma r s = .ok ds s' → ds.length + 1 = ps.length) (hst : starEach (e :: es) X.env = (false, eval e X.env) :: starEach es X.env := by rfl) (hpl : (backTo pos (starEach es X.env)).any (·.1) = false := by rfl)
    (ht : eval (.Call (.Attribute o mn apos) (e :: es) [] pos) X.env = (do
      let ov ← eval o X.env
      standAt apos.atName
      let (f, first) ← holding [ov] (getMethod ov mn pl)
      callWith pos f first (backTo pos (starEach (e :: es) X.env)) (backToKw pos (keywordEach [] X.env))) := by rfl) :
    DE X W (.Call (.Attribute o mn apos) (e :: es) [] pos) (mMeth C mn m mo ma) := by
  refine ⟨fun pins s σ H Q I h => ?_⟩
  obtain ⟨p, r, st, he, hs, q⟩ := h
  refine PySem.W.methodCall_KW (pl := pl) (thn (ho.run pins s σ H (fun x H1 => ∃ a dx fs, x = .ref a ∧ H1 a = some (.ins C dx fs) ∧ fs.lookup mn = none ∧ tA X.K W ma σ H1 fun vs H2 => spD X.K ps.length m (.ref a :: vs) H2 Q (WE W σ)) I ?_) fun u s1 ⟨x, H1, I1, rx, a, dx, fs, ex, ea, l, q⟩ => ?_) ht
  · refine tE.stepK he hs q fun p1 H1 d v s1 e1 r1 he1 rd q1 => ?_
    split at q1
    · rename_i n
      split at q1
      · rename_i C' fs hn
        split at q1
        · rename_i hc
          obtain ⟨rfl, hl⟩ := hc
          obtain ⟨a, dx, us, rfl, ha1, rf, hp⟩ := ins_rd r1 rd hn
          refine ⟨a, dx, us, rfl, ha1, rf.lookup_none hl, p1, r, s1, he1, r1, ?_⟩
          cases hq : ma r s1 with
          | ok ds s2 =>
            simp only [hq, R.bind_ok] at q1
            exact fun p2 H2 e2 r2 vs rds => ⟨p2, s2, .loc n :: ds, by simp [← hma r s1 ds s2 hq], r2, .cons (rd.mono e2) rds, pF_of (pR.mono e2 q1)⟩
          | exc e s2 => simp only [hq, R.bind_exc] at q1; exact q1
          | bad => simp only [hq, R.bind_bad] at q1; exact q1
        · exact q1.elim
      · exact q1.elim
    · exact q1.elim
  · subst ex
    obtain rfl : u = Value.ref a := rx
    refine getmeth_ok I1 ea c hm l ?_
    refine PySem.W.callWith_K (first := [.ref a]) (h₀ := X.base) I.ok.mod.kin hm.kp (thn (ha.run pos pins s1 σ H1 _ I1 q) fun us s2 ⟨vs, H2, I2, r, q2⟩ => ⟨I2.kIn, ?_⟩) hst hpl
    exact run_fnS (us := .ref a :: us) (vs := .ref a :: vs) (E := WE W) F hr hb (passAt tk σ) I2 (.cons rfl r) q2
theorem de_meth0 {pl : Sem Bool} (ho : DE X W o mo) (c : Cls X.K C) (hm : Meth X.K C mn f) (F : FnD X.prog X.w X.K X.mg X.base k f fd ps m) (hr : Room k X.A) (tk : Takes X W) (hb : Binds X.K fd ps []) (hps : ps.length = 1)
    (ht : eval (.Call (.Attribute o mn apos) [] [] pos) X.env = (do
      let ov ← eval o X.env
      standAt apos.atName
      let (f, first) ← holding [ov] (getMethod ov mn pl)
      callWith pos f first (backTo pos (starEach [] X.env)) (backToKw pos (keywordEach [] X.env))) := by rfl) :
    DE X W (.Call (.Attribute o mn apos) [] [] pos) (mMeth C mn m mo mNil) := by
  refine ⟨fun pins s σ H Q I h => ?_⟩
  obtain ⟨p, r, st, he, hs, q⟩ := h
  refine PySem.W.methodCall_KW (pl := pl) (thn (ho.run pins s σ H (fun x H1 => ∃ a dx fs, x = .ref a ∧ H1 a = some (.ins C dx fs) ∧ fs.lookup mn = none ∧ spD X.K ps.length m [.ref a] H1 Q (WE W σ)) I ?_) fun u s1 ⟨x, H1, I1, rx, a, dx, fs, ex, ea, l, q⟩ => ?_) ht
  · refine tE.stepK he hs q fun p1 H1 d v s1 e1 r1 he1 rd q1 => ?_
    split at q1
    · rename_i n
      split at q1
      · rename_i C' fs hn
        split at q1
        · rename_i hc
          obtain ⟨rfl, hl⟩ := hc
          obtain ⟨a, dx, us, rfl, ha1, rf, hp⟩ := ins_rd r1 rd hn
          exact ⟨a, dx, us, rfl, ha1, rf.lookup_none hl, p1, s1, [.loc n], by simp [hps], r1, .cons rd .nil, pF_of q1⟩
        · exact q1.elim
      · exact q1.elim
    · exact q1.elim
  · subst ex
    obtain rfl : u = Value.ref a := rx
    refine getmeth_ok I1 ea c hm l ?_
    exact PySem.W.callWith_K0 (first := [.ref a]) I1.kIn hm.kp (run_fnS (us := [.ref a]) (vs := [.ref a]) (E := WE W) F hr hb (passAt tk σ) I1 (.cons rfl .nil) q)
/-- C(..) -/
theorem run_makeS {pins : List (Addr × Obj)} {σ : L2.St} {H : Hp} {s : Shared} {Q : VK} {us : List Value} {vs : List V} {sp : Sp} {CX : CXT} {E : XK} (M : Mk X.K C f) (F : FnOk X.prog X.w X.K X.mg X.base CX k f fd ps sp) (hr : Room (k + 1) X.A) (hb : Binds X.K fd ps [])
    (hx : PassesAt CX X σ E) (I : Inv X pins σ H s) (r : Vals vs us)
    (h : ∀ x dx, H x = none → H dx = none → dx ≠ x → sp (.ref x :: vs) (upd (upd H dx (.own x)) x (.ins C dx [])) (fun v H2 => v = .non ∧ Q (.ref x) H2) E) :
    wpAny (model X.prog X.w) X.A (call (.ref C) us) (EP X pins σ Q) X.xe s := by
  have hq := h (s.heap.objs.size + 1) s.heap.objs.size (I.hok.fresh (Nat.le_succ _)) (I.hok.fresh (Nat.le_refl _)) (Nat.ne_of_lt (Nat.lt_succ_self _))
  have I2 := Inv.made (C := C) I
  have r2 : Vals (V.ref (s.heap.objs.size + 1) :: vs) (Value.ref (s.heap.objs.size + 1) :: us) := .cons rfl r
  have hl : (Value.ref (s.heap.objs.size + 1) :: us).length = ps.length := by
    have e := r2.length
    rw [F.len _ _ _ _ hq] at e
    exact e.symm
  have b := hb { s with heap := (s.heap.push PySem.W.emptyDict).push (PySem.W.instObj C s.heap.objs.size) } (Value.ref (s.heap.objs.size + 1) :: us) I2.kIn (by rw [List.append_nil]; exact hl)
  rw [List.append_nil] at b
  refine wpAny_call (make_map (f := f) I.kIn M.makes M.init (beq_iff_eq.mp M.fn) (codeAny_mono (F.run _ X.stack _ _ ⟨Value.ref (s.heap.objs.size + 1) :: us, []⟩ (Value.ref (s.heap.objs.size + 1) :: us) _ _ E (hr.make C us [])
    (I2.env0.make C us []) b r2 hq) fun r s' hq' => ?_))
  cases r with
  | error e => exact hx pins _ _ e s' I2 hq'
  | ok fl =>
    cases fl with
    | ret u =>
      obtain ⟨v, H', I3, rv, ev, q3⟩ := I2.after hq'
      subst ev
      exact ⟨rv, ⟨V.ref (s.heap.objs.size + 1), H', I3, rfl, q3⟩⟩
    | next => exact False.elim hq'
    | brk => exact False.elim hq'
    | cont => exact False.elim hq'
theorem RS.inst {K : PySem.W.Frag} {p : List Addr} {s : Sto} {H : Hp} {a dx C : Addr} (oc : OwnC K C) (h : RS K p s H) (ha : H a = none) (hd : H dx = none) (hne : dx ≠ a) :
    Ex p H (p ++ [a]) (upd (upd H dx (.own a)) a (.ins C dx [])) ∧ RS K (p ++ [a]) (s ++ [.ins C []]) (upd (upd H dx (.own a)) a (.ins C dx [])) := by
  have ha' : upd H dx (.own a) a = none := by rw [upd_ne (Ne.symm hne)]; exact ha
  exact ⟨(ex_new0 hd).trans (ex_new ha'), (h.beside hd).push ha' (.ins oc .nil)⟩
theorem de_make (oc : OwnC X.K C) (M : Mk X.K C f) (F : FnD X.prog X.w X.K X.mg X.base k f fd ps m) (hr : Room (k + 1) X.A) (tk : Takes X W) (hg : Gl X x) (hm : X.mg x = some (.ref C)) (hb : Binds X.K fd ps []) (ha : DA X W (e :: es) ma)
    (hma : ∀ r s ds s', ma r s = .ok ds s' → ds.length + 1 = ps.length) (hdb : (x == ("__debug__" : Str)) = false := by decide) (he : starEach (e :: es) X.env = (false, eval e X.env) :: starEach es X.env := by rfl) (hpl : (backTo pos (starEach es X.env)).any (·.1) = false := by rfl) :
    DE X W (.Call (.Name x p) (e :: es) [] pos) (mMake C m ma) := by
  refine ⟨fun pins s σ H Q I h => ?_⟩
  obtain ⟨p, r, st, hre, hs, q⟩ := h
  refine wpAny_Call_Name_kw (ld_glob I hg hm ?_ hdb)
  refine PySem.W.callWith_K (h₀ := X.base) I.ok.mod.kin M.kp (thn (ha.run pos pins s σ H (fun vs H1 => ∀ x dx, H1 x = none → H1 dx = none → dx ≠ x → spD X.K ps.length m (.ref x :: vs) (upd (upd H1 dx (.own x)) x (.ins C dx [])) (fun v H2 => v = .non ∧ Q (.ref x) H2) (WE W σ)) I ?_) fun us s1 ⟨vs, H1, I1, r, q⟩ => ⟨I1.kIn, ?_⟩) he hpl
  · refine ⟨p, r, st, hre, hs, ?_⟩
    cases hq : ma r st with
    | ok ds s1 =>
      simp only [mMake, hq, R.bind_ok] at q
      refine fun p1 H1 e1 r1 vs rds a dx ha hd hne => ?_
      obtain ⟨ex, rs⟩ := RS.inst (C := C) oc r1 ha hd hne
      refine ⟨p1 ++ [a], s1 ++ [.ins C []], .loc s1.length :: ds, by simp [← hma r st ds s1 hq], rs, .cons (.loc (by rw [← r1.len]; simp)) (rds.mono ex), ?_⟩
      have q' := pR.mono (e1.trans ex) q
      cases hq2 : m (.loc s1.length :: ds) (s1 ++ [.ins C []]) with
      | ok d s2 =>
        simp only [hq2, R.bind_ok] at q'
        intro p2 H2 v e2 r2 rd
        cases rd with
        | non =>
          refine ⟨rfl, ?_⟩
          exact q' p2 H2 e2 r2 _ (.loc (e2.get (by rw [← r1.len]; simp)))
        | _ => exact (show False from q').elim
      | exc e s2 => simp only [hq2, R.bind_exc] at q'; exact q'
      | bad => simp only [hq2, R.bind_bad] at q'; exact q'
    | exc e s1 => simp only [mMake, hq, R.bind_exc] at q; exact q
    | bad => simp only [mMake, hq, R.bind_bad] at q; exact q
  · exact run_makeS M F hr hb (passAt tk σ) I1 r q
end

/-! ### attributes -/
/-- classes whose instances have plain attributes of this name -/
def Plain (K : PySem.W.Frag) (cs : List Addr) (f : Str) : Prop := ∀ C ∈ cs, Cls K C ∧ NoAttr K C f
def mFld (cs : List Addr) (f : Str) (mo : ME) : ME := fun r s => (mo r s).bind fun d s1 => match d with
  | .loc n => match s1[n]? with
    | some (.ins C fs) => if C ∈ cs then (match fs.lookup f with
      | some v => .ok v s1
      | none => .bad) else .bad
    | _ => .bad
  | _ => .bad
def putD (f : Str) (v : D) : List (Str × D) → List (Str × D)
  | [] => [(f, v)]
  | (g, x) :: r => if g = f then (g, v) :: r else (g, x) :: putD f v r
theorem RF.putD {K : PySem.W.Frag} {p : List Addr} {H : Hp} {f : Str} {d : D} {v : V} (rd : RD K p H d v) : ∀ {ds : List (Str × D)} {vs : List (Str × V)}, RF K p H ds vs → RF K p H (putD f d ds) (putF f v vs)
  | _, _, .nil => .cons ⟨rfl, rd⟩ .nil
  | (g, x) :: ds, (g', y) :: vs, .cons q r => by
    obtain ⟨q1, q2⟩ := q
    dsimp only at q1 q2
    subst q1
    simp only [DL.putD, L2.putF]
    split
    · exact .cons ⟨rfl, rd⟩ r
    · exact .cons ⟨rfl, q2⟩ (RF.putD rd r)
section
variable {X : Cx} {W : WX} {pos pos' : Pos} {e o value : Expr} {mo mv : ME} {f : Str} {cs : List Addr}
theorem de_fld (hc : Plain X.K cs f) (ho : DE X W o mo) (hb : attributeBase o f X.env (eval o X.env) = eval o X.env := by rfl) : DE X W (.Attribute o f pos) (mFld cs f mo) := PE.imp (pe_fld ho hb) fun t H Q ⟨p, r, s, he, hs, q⟩ => by
  refine tE.stepK he hs q fun p1 H1 d v s1 e1 r1 he1 rd q1 => ?_
  split at q1
  · split at q1
    · rename_i C fs hn
      split at q1
      · rename_i hm
        split at q1
        · rename_i z hz
          obtain ⟨a, dx, us, rfl, ha1, rf, hp⟩ := ins_rd r1 rd hn
          obtain ⟨v, hv, rv⟩ := rf.lookup hz
          exact ⟨a, C, dx, us, v, rfl, ha1, (hc C hm).1, (hc C hm).2, hv, q1 p1 H1 .refl r1 v rv⟩
        · exact q1.elim
      · exact q1.elim
    · exact q1.elim
  · exact q1.elim
/-- o.f = value -/
def mSetFld (cs : List Addr) (f : Str) (mo mv : ME) : MS := fun r s => match mv r s with
  | .ok v s1 => match mo r s1 with
    | .ok (.loc n) s2 => match s2[n]? with
      | some (.ins C fs) => if C ∈ cs ∧ fs.length < 1000 then .nx r (s2.set n (.ins C (putD f v fs))) else .bad
      | _ => .bad
    | .ok _ _ => .bad
    | .exc e s2 => .exc e r s2
    | .bad => .bad
  | .exc e s1 => .exc e r s1
  | .bad => .bad
/-- from a statement that begins with an expression -/
theorem tE.stepS {K : PySem.W.Frag} {W : WX} {t : L2.St} {H : Hp} {Z : Ends} {m : ME} {f : D → Sto → S} {p : List Addr} {r : Env} {s : Sto} {Q1 : VK} (he : RE K p H r t) (hs : RS K p s H) {x : S}
    (hx : x = match m r s with | .ok d s1 => f d s1 | .exc e s1 => .exc e r s1 | .bad => .bad) (h : pS K W Z p H x)
    (g : ∀ p1 H1 d v s1, Ex p H p1 H1 → RS K p1 s1 H1 → RE K p1 H1 r t → RD K p1 H1 d v → pS K W Z p1 H1 (f d s1) → Q1 v H1) : tE K W m t H Q1 := by
  refine ⟨p, r, s, he, hs, ?_⟩
  subst hx
  cases hq : m r s with
  | ok d s1 =>
    simp only [hq] at h
    exact fun p1 H1 e1 r1 v rd => g p1 H1 d v s1 e1 r1 (he.mono e1) rd (pS.mono e1 h)
  | exc e s1 =>
    simp only [hq] at h
    exact fun p1 H1 d e1 r1 rx => h p1 H1 t d e1 r1 (he.mono e1) rx
  | bad => simp only [hq] at h; exact h
theorem ds_fld (hc : Plain X.K cs f) (ho : DE X W o mo) (hv : DE X W value mv) (hs : swapsWith value (some (.Attribute o f pos')) pos.line X.env = pure false := by rfl) : DS X W (.Assign [.Attribute o f pos'] value pos) (mSetFld cs f mo mv) :=
  PS.imp (ps_fld ho hv hs) fun D t H ⟨p, r, s, he, hs, q⟩ => by
    refine tE.stepS (f := fun v s1 => match mo r s1 with
      | .ok (.loc n) s2 => (match s2[n]? with
        | some (.ins C fs) => if C ∈ cs ∧ fs.length < 1000 then .nx r (s2.set n (.ins C (putD f v fs))) else .bad
        | _ => .bad)
      | .ok _ _ => .bad
      | .exc e s2 => .exc e r s2
      | .bad => .bad) he hs rfl q fun p1 H1 d v s1 e1 r1 he1 rd q1 => ?_
    refine tE.stepS (f := fun z s2 => match z with
      | .loc n => (match s2[n]? with
        | some (.ins C fs) => if C ∈ cs ∧ fs.length < 1000 then .nx r (s2.set n (.ins C (putD f d fs))) else .bad
        | _ => .bad)
      | _ => .bad) he1 r1 (by cases mo r s1 with
        | ok d s2 => cases d <;> rfl
        | exc _ _ => rfl
        | bad => rfl) q1 fun p2 H2 z w s2 e2 r2 he2 rd2 q2 => ?_
    split at q2
    · split at q2
      · rename_i C fs hn
        split at q2
        · rename_i hm
          obtain ⟨a, dx, us, rfl, ha1, rf, hp⟩ := ins_rd r2 rd2 hn
          have ex : Ex p2 H2 p2 (upd H2 a (.ins C dx (putF f v us))) := ex_upd hp ha1 trivial
          refine ⟨a, C, dx, us, rfl, ha1, (hc C hm.1).1, (hc C hm.1).2, by rw [← rf.length]; exact hm.2, ?_⟩
          exact q2 p2 _ t ex (r2.put hp ha1 trivial (.ins (own_rd r2 rd2 hn) ((RF.putD (rd.mono e2) rf).mono ex))) (he2.mono ex)
        · exact q2.elim
      · exact q2.elim
    · exact q2.elim
end

/-! ### dicts as lists of entries -/
def dGet (kvs : List (Key × D)) (k : Key) : Option D := (kvs.find? fun kv => decide (kv.1 = k)).map (·.2)
def dPut (kvs : List (Key × D)) (k : Key) (v : D) : List (Key × D) :=
  if (kvs.any fun kv => decide (kv.1 = k)) = true then kvs.map (fun kv => if kv.1 = k then (kv.1, v) else kv) else kvs ++ [(k, v)]
def keyD : D → Option Key
  | .int i => some (.inl i)
  | .str x => some (.inr x)
  | _ => none
def keyV : Key → D
  | .inl i => .int i
  | .inr x => .str x
section
variable {K : PySem.W.Frag} {p : List Addr} {H : Hp}
theorem keyD_rd {d : D} {v : V} {k : Key} (r : RD K p H d v) (h : keyD d = some k) : v = kV k := by
  cases r <;> simp only [keyD] at h <;> cases h <;> rfl
theorem keyV_rd (k : Key) : RD K p H (keyV k) (kV k) := by cases k <;> constructor
theorem dGet_rd {k : Key} : ∀ {ds : List (Key × D)} {vs : List (Key × V)} {d : D}, RF K p H ds vs → dGet ds k = some d → ∃ v, valV vs k = some v ∧ RD K p H d v
  | _, _, _, .nil, e => by simp [dGet] at e
  | (k1, d1) :: ds, (k2, v2) :: vs, d, .cons q r, e => by
    obtain ⟨q1, q2⟩ := q
    dsimp only at q1 q2
    subst q1
    by_cases h : k1 = k
    · simp only [dGet, List.find?, h, decide_true, Option.map_some, Option.some.injEq] at e
      subst e
      exact ⟨v2, by rw [valV_pos (by exact h)], q2⟩
    · have e' : dGet ds k = some d := by simpa only [dGet, List.find?, h, decide_false] using e
      obtain ⟨v, h1, h2⟩ := dGet_rd r e'
      exact ⟨v, by rw [valV_neg (by exact h)]; exact h1, h2⟩
theorem dGet_none {k : Key} : ∀ {ds : List (Key × D)} {vs : List (Key × V)}, RF K p H ds vs → dGet ds k = none → valV vs k = none
  | _, _, .nil, _ => rfl
  | (k1, d1) :: ds, (k2, v2) :: vs, .cons q r, e => by
    obtain ⟨q1, q2⟩ := q
    dsimp only at q1 q2
    subst q1
    by_cases h : k1 = k
    · simp [dGet, List.find?, h] at e
    · have e' : dGet ds k = none := by simpa only [dGet, List.find?, h, decide_false] using e
      rw [valV_neg (by exact h)]; exact dGet_none r e'
theorem any_rd {k : Key} : ∀ {ds : List (Key × D)} {vs : List (Key × V)}, RF K p H ds vs → (ds.any fun kv => decide (kv.1 = k)) = vs.any fun kv => decide (kv.1 = k)
  | _, _, .nil => rfl
  | (k1, d1) :: ds, (k2, v2) :: vs, .cons q r => by
    obtain ⟨q1, q2⟩ := q
    dsimp only at q1 q2
    subst q1
    simp only [List.any_cons, any_rd r]
theorem dPut_map {k : Key} {d : D} {v : V} (rd : RD K p H d v) : ∀ {ds : List (Key × D)} {vs : List (Key × V)}, RF K p H ds vs → RF K p H (ds.map fun kv => if kv.1 = k then (kv.1, d) else kv) (vs.map fun kv => if kv.1 = k then (kv.1, v) else kv)
  | _, _, .nil => .nil
  | (k1, d1) :: ds, (k2, v2) :: vs, .cons q r => by
    obtain ⟨q1, q2⟩ := q
    dsimp only at q1 q2
    subst q1
    simp only [List.map_cons]
    refine .cons ?_ (dPut_map rd r)
    by_cases h : k1 = k
    · rw [if_pos h, if_pos h]; exact ⟨rfl, rd⟩
    · rw [if_neg h, if_neg h]; exact ⟨rfl, q2⟩
theorem RF.snoc {κ : Type} {k : κ} {d : D} {v : V} (rd : RD K p H d v) : ∀ {ds : List (κ × D)} {vs : List (κ × V)}, RF K p H ds vs → RF K p H (ds ++ [(k, d)]) (vs ++ [(k, v)])
  | _, _, .nil => .cons ⟨rfl, rd⟩ .nil
  | _, _, .cons q r => .cons q (RF.snoc rd r)
theorem dPut_rd {k : Key} {d : D} {v : V} (rd : RD K p H d v) {ds : List (Key × D)} {vs : List (Key × V)} (r : RF K p H ds vs) : RF K p H (dPut ds k d) (putK vs k v) := by
  unfold dPut putK
  rw [any_rd r]
  split
  · exact dPut_map rd r
  · exact RF.snoc rd r
end

/-! ### subscripts -/
def gIx : G2
  | .loc n, i, s => match s[n]? with
    | some (.lst ds) => (match i with
      | .int j => (atI ds j).map fun z => (z, s)
      | _ => none)
    | some (.dct kvs) => (keyD i).bind fun k => (dGet kvs k).map fun z => (z, s)
    | some (.lok kvs) => (keyD i).bind fun k => (dGet kvs k).map fun z => (z, s)
    | _ => none
  | .tup ds, .int j, s => (atI ds j).map fun z => (z, s)
  | .str x, .int j, s => if x.length ≤ sizeLine then (atI x.cps.toList j).map fun c => (.str ⟨#[c]⟩, s) else none
  | _, _, _ => none
section
variable {X : Cx} {W : WX} {pos : Pos} {a b : Expr} {m n : ME}
theorem IxR.or {r r' : R2} (h : IxR X r) (h' : IxR X r') : IxR X (fun x y H Q => r x y H Q ∨ r' x y H Q) := fun value slice pins s σ H x y v u Q I rx ry q hs =>
  q.elim (fun z => h value slice pins s σ H x y v u Q I rx ry z hs) fun z => h' value slice pins s σ H x y v u Q I rx ry z hs
theorem IxR.imp {r r' : R2} (h : IxR X r) (g : ∀ x y H Q, r' x y H Q → r x y H Q) : IxR X r' := fun value slice pins s σ H x y v u Q I rx ry q hs => h value slice pins s σ H x y v u Q I rx ry (g x y H Q q) hs
theorem ix_dict (hu : X.A.units + 1 < cLine) : IxR X (fun x y H Q => ∃ a v, x = .ref a ∧ DGet H a y (some v) ∧ Q v H) := by
  intro value slice pins s σ H x y v u Q I rx ry h hs
  obtain ⟨a, z, rfl, g, q⟩ := h
  obtain rfl : v = Value.ref a := rx
  exact tail_any (dict_typeIs I g) PySem.F.slot_dict_getitem.lookup (d_getItem hu I g ry fun w' s3 I3 rw' => ⟨z, H, I3, rw', q⟩) hs
theorem RDs.at {K : PySem.W.Frag} {p : List Addr} {H : Hp} {ds : List D} {vs : List V} {j : Int} {z : D} (r : RDs K p H ds vs) (h : atI ds j = some z) : ∃ v, atI vs j = some v ∧ RD K p H z v := by
  unfold atI at h ⊢
  rw [r.length] at h
  cases e : ixN vs.length j with
  | none => rw [e] at h; cases h
  | some k => rw [e] at h; exact r.get h
theorem dct_rd {K : PySem.W.Frag} {p : List Addr} {H : Hp} {s : Sto} {n : Nat} {v : V} {kvs : List (Key × D)} (hs : RS K p s H) (r : RD K p H (.loc n) v) (h : s[n]? = some (.dct kvs)) : ∃ a us, v = .ref a ∧ H a = some (.dK us) ∧ RF K p H kvs us ∧ p[n]? = some a := by
  cases r with
  | loc h1 =>
    obtain ⟨a1, o1, q1, q2, q3⟩ := hs.mut h
    rw [h1] at q1; cases q1
    cases q3 with
    | dct r => exact ⟨_, _, rfl, q2, r, h1⟩
theorem lok_rd {K : PySem.W.Frag} {p : List Addr} {H : Hp} {s : Sto} {n : Nat} {v : V} {kvs : List (Key × D)} (hs : RS K p s H) (r : RD K p H (.loc n) v) (h : s[n]? = some (.lok kvs)) : ∃ a o us, v = .ref a ∧ H a = some (.frz o (.dK us)) ∧ RF K p H kvs us ∧ p[n]? = some a := by
  cases r with
  | loc h1 =>
    obtain ⟨a1, o1, q1, q2, q3⟩ := hs.mut h
    rw [h1] at q1; cases q1
    cases q3 with
    | lok r => exact ⟨_, _, _, rfl, q2, r, h1⟩
theorem lst_rd {K : PySem.W.Frag} {p : List Addr} {H : Hp} {s : Sto} {n : Nat} {v : V} {ds : List D} (hs : RS K p s H) (r : RD K p H (.loc n) v) (h : s[n]? = some (.lst ds)) : ∃ a us, v = .ref a ∧ H a = some (.lst us) ∧ RDs K p H ds us ∧ p[n]? = some a := by
  cases r with
  | loc h1 =>
    obtain ⟨a1, o1, q1, q2, q3⟩ := hs.mut h
    rw [h1] at q1; cases q1
    cases q3 with
    | lst r => exact ⟨_, _, rfl, q2, r, h1⟩
theorem ix_D (hu : X.A.units + 1 < cLine) : IxR X (fun x y H Q => ∃ p s d e z s', RS X.K p s H ∧ RD X.K p H d x ∧ RD X.K p H e y ∧ gIx d e s = some (z, s') ∧ Fin X.K p H z s' Q) :=
  IxR.imp ((((ix_list (X := X)).or ix_tup).or ix_str).or (ix_dict hu)) fun x y H Q ⟨p, s, d, e, z, s', hs, rx, ry, hg, hf⟩ => by
    cases d with
    | loc n =>
      simp only [gIx] at hg
      split at hg
      · rename_i ds hn
        obtain ⟨a, us, rfl, h1, h2, h3⟩ := lst_rd hs rx hn
        cases ry <;> simp only [] at hg <;> try (cases hg; done)
        simp only [Option.map_eq_some_iff] at hg
        obtain ⟨z1, hz, hq⟩ := hg
        cases hq
        obtain ⟨v, hv, rv⟩ := h2.at hz
        exact .inl (.inl (.inl ⟨a, us, _, v, rfl, rfl, SqL.of h1, hv, hf.now hs rv⟩))
      · rename_i kvs hn
        obtain ⟨a, us, rfl, h1, h2, h3⟩ := dct_rd hs rx hn
        simp only [Option.bind_eq_some_iff, Option.map_eq_some_iff] at hg
        obtain ⟨k, hk, z1, hz, hq⟩ := hg
        cases hq
        obtain ⟨v, hv, rv⟩ := dGet_rd h2 hz
        exact .inr ⟨a, v, rfl, .inl ⟨us, k, .inl h1, keyD_rd ry hk, hv.symm⟩, hf.now hs rv⟩
      · rename_i kvs hn
        obtain ⟨a, o, us, rfl, h1, h2, h3⟩ := lok_rd hs rx hn
        simp only [Option.bind_eq_some_iff, Option.map_eq_some_iff] at hg
        obtain ⟨k, hk, z1, hz, hq⟩ := hg
        cases hq
        obtain ⟨v, hv, rv⟩ := dGet_rd h2 hz
        exact .inr ⟨a, v, rfl, .inl ⟨us, k, .inr ⟨o, h1⟩, keyD_rd ry hk, hv.symm⟩, hf.now hs rv⟩
      · cases hg
    | tup ds =>
      cases rx with
      | tup h1 r1 =>
        cases ry <;> simp only [gIx] at hg <;> try (cases hg; done)
        simp only [Option.map_eq_some_iff] at hg
        obtain ⟨z1, hz, hq⟩ := hg
        cases hq
        obtain ⟨v, hv, rv⟩ := r1.at hz
        exact .inl (.inl (.inr ⟨_, _, _, v, rfl, rfl, h1, hv, hf.now hs rv⟩))
    | str x =>
      cases rx
      cases ry <;> simp only [gIx] at hg <;> try (cases hg; done)
      split at hg
      · rename_i hl
        simp only [Option.map_eq_some_iff] at hg
        obtain ⟨z1, hz, hq⟩ := hg
        cases hq
        exact .inl (.inr ⟨_, _, _, rfl, rfl, hl, hz, hf.now hs (.str _)⟩)
      · cases hg
    | non => simp [gIx] at hg
    | bl b => simp [gIx] at hg
    | int b => simp [gIx] at hg
    | con b => simp [gIx] at hg
theorem de_ix (hu : X.A.units + 1 < cLine) (ha : DE X W a m) (hb : DE X W b n) (hs : PlainIx b := by exact fun _ _ => rfl) : DE X W (.Subscript a b pos) (mBin gIx m n) := PE.imp (pe_ix (ix_D hu) ha hb hs) fun _ _ _ q => tOp_of q
end

/-! ### slices -/
def gSl (s : Sto) : D → Option Int → Option Int → Option (D × Sto)
  | .tup ds, lo, hi => some (.tup ((ds.drop (HT.sIx ds.length 0 lo)).take (HT.sIx ds.length ds.length hi - HT.sIx ds.length 0 lo)), s)
  | .str x, lo, hi => if x.length ≤ sizeLine then some (.str (cutS x lo hi), s) else none
  | .loc n, lo, hi => match s[n]? with
    | some (.lst ds) => some (.loc s.length, s ++ [.lst ((ds.drop (HT.sIx ds.length 0 lo)).take (HT.sIx ds.length ds.length hi - HT.sIx ds.length 0 lo))])
    | _ => none
  | _, _, _ => none
def mPart (m : Option ME) : Env → Sto → R (Option Int) := fun r s => match m with
  | none => .ok none s
  | some m => (m r s).bind fun d s1 => match d with
    | .int i => .ok (some i) s1
    | _ => .bad
def mSl (m : ME) (lo hi : Option ME) : ME := fun r s => (m r s).bind fun d s1 => (mPart lo r s1).bind fun l s2 => (mPart hi r s2).bind fun h s3 => R.of (gSl s3 d l h)
def tOI (K : PySem.W.Frag) (W : WX) (m : Option ME) : TO := fun t H Q => ∃ p r s, RE K p H r t ∧ RS K p s H ∧ pR K W t p H (mPart m r s) fun _ H' i _ => Q i H'
section
variable {X : Cx} {W : WX} {pos p2 : Pos} {a b : Expr} {m n : ME}
theorem PO.imp {e : Option Expr} {t t' : TO} (h : PO X e t) (g : ∀ σ H Q, t' σ H Q → t σ H Q) : PO X e t' := ⟨fun pins s σ H Q I q => h.run pins s σ H Q I (g σ H Q q)⟩
theorem do_none : PO X none (tOI X.K W none) := PO.imp po_none fun t H Q ⟨p, r, s, he, hs, q⟩ => q p H .refl hs
theorem do_some (h : DE X W a m) : PO X (some a) (tOI X.K W (some m)) := PO.imp (po_some h) fun t H Q ⟨p, r, s, he, hs, q⟩ => by
  refine tE.stepK he hs q fun p1 H1 d v s1 e1 r1 he1 rd q1 => ?_
  cases rd <;> try (exact (show False from q1).elim)
  exact ⟨_, rfl, q1 p1 H1 .refl r1⟩
theorem tOI.stepK {K : PySem.W.Frag} {W : WX} {t : L2.St} {H : Hp} {α : Type} {m : Option ME} {f : Option Int → Sto → R α} {p : List Addr} {r : Env} {s : Sto} {k : List Addr → Hp → α → Sto → Prop} {Q1 : Option Int → Hp → Prop} (he : RE K p H r t) (hs : RS K p s H)
    (h : pR K W t p H ((mPart m r s).bind f) k)
    (g : ∀ p1 H1 b s1, Ex p H p1 H1 → RS K p1 s1 H1 → RE K p1 H1 r t → pR K W t p1 H1 (f b s1) k → Q1 b H1) : tOI K W m t H Q1 :=
  ⟨p, r, s, he, hs, (pR.bind h).imp fun p1 H1 b s1 e1 r1 q => g p1 H1 b s1 e1 r1 (he.mono e1) q⟩
theorem de_slice {lo hi : Option Expr} {ml mh : Option ME} (ha : DE X W a m) (hl : PO X lo (tOI X.K W ml)) (hh : PO X hi (tOI X.K W mh)) : DE X W (.Subscript a (.Slice lo hi none p2) pos) (mSl m ml mh) :=
  PE.imp (pe_slice (((sl_list (X := X)).or sl_tupA).or sl_str) ha hl hh) fun t H Q ⟨p, r, s, he, hs, q⟩ => by
    refine tE.stepK he hs q fun p1 H1 d v s1 e1 r1 he1 rd q1 => ?_
    refine tOI.stepK he1 r1 q1 fun p2 H2 l s2 e2 r2 he2 q2 => ?_
    refine tOI.stepK he2 r2 q2 fun p3 H3 h s3 e3 r3 he3 q3 => ?_
    obtain ⟨z, s', hz, hf⟩ := pR.fin q3
    have rd3 := (rd.mono e2).mono e3
    cases rd3 with
    | tup ht rt =>
      simp only [gSl] at hz
      cases hz
      refine .inl (.inr ⟨_, _, rfl, ht, fun hw => ?_, fun _ q hq => ?_⟩)
      · refine hf.now r3 (.tup ht ?_)
        rw [← rt.length] at hw
        rw [hw.1, hw.2]
        simpa using rt
      · have := hf.tup r3 ((rt.drop (HT.sIx _ 0 l)).take (HT.sIx _ _ h - HT.sIx _ 0 l)) hq
        rw [rt.length] at this
        exact this
    | str x =>
      simp only [gSl] at hz
      split at hz
      · rename_i hl
        cases hz
        exact .inr ⟨x, rfl, hl, hf.now r3 (.str _)⟩
      · cases hz
    | loc h1 =>
      simp only [gSl] at hz
      split at hz
      · rename_i ds hn
        cases hz
        obtain ⟨a, us, e, h1, h2, h3⟩ := lst_rd r3 (.loc h1) hn
        cases e
        refine .inl (.inl ⟨_, us, rfl, SqL.of h1, fun q hq => ?_⟩)
        have := hf.lst r3 ((h2.drop (HT.sIx _ 0 l)).take (HT.sIx _ _ h - HT.sIx _ 0 l)) hq
        rw [h2.length] at this
        exact this
      · cases hz
    | non => simp [gSl] at hz
    | bl b => simp [gSl] at hz
    | int b => simp [gSl] at hz
    | con b => simp [gSl] at hz
end

/-! ### isinstance of built-in types -/
def tyD (s : Sto) : D → Option String
  | .non => some "NoneType"
  | .bl _ => some "bool"
  | .int _ => some "int"
  | .str _ => some "str"
  | .tup _ => some "tuple"
  | .loc n => match s[n]? with
    | some (.lst _) => some "list"
    | some (.dct _) => some "dict"
    | _ => none
  | .con _ => none
/-- an own instance is of no built-in type -/
def insB (s : Sto) (n : String) : D → Option Bool
  | .loc m => match s[m]? with
    | some (.ins _ _) => if n = "tuple" ∨ n = "int" ∨ n = "bool" ∨ n = "list" ∨ n = "dict" ∨ n = "str" then some false else none
    | _ => none
  | _ => none
def gIsi : GF
  | [d, .con (.ty n)], s => match tyD s d with
    | some t => (kitB t n).map fun b => (.bl b, s)
    | none => (insB s n d).map fun b => (.bl b, s)
  | _, _ => none
theorem tyD_rd {K : PySem.W.Frag} {p : List Addr} {H : Hp} {s : Sto} {d : D} {v : V} {t : String} (hs : RS K p s H) (rd : RD K p H d v) (h : tyD s d = some t) : TyX K H v (.type t) := by
  cases rd with
  | non => simp only [tyD] at h; cases h; exact .base .non
  | bl b => simp only [tyD] at h; cases h; exact .base (.bl b)
  | int b => simp only [tyD] at h; cases h; exact .base (.int b)
  | str b => simp only [tyD] at h; cases h; exact .base (.str b)
  | con b => simp [tyD] at h
  | tup h1 r1 =>
    simp only [tyD] at h; cases h
    rcases h1 with h1 | ⟨o, its, n, h1, h2, _⟩
    · rcases h1 with h1 | ⟨o, h1⟩
      · exact .base (.tup h1)
      · exact .fTuple h1
    · exact .kTuple h1 h2
  | loc h1 =>
    simp only [tyD] at h
    split at h
    · rename_i ds hn
      cases h
      obtain ⟨a, us, e, h1, h2, h3⟩ := lst_rd hs (.loc h1) hn
      cases e
      exact .base (.lst h1)
    · rename_i ds hn
      cases h
      obtain ⟨a, us, e, h1, h2, h3⟩ := dct_rd hs (.loc h1) hn
      cases e
      exact .base (.dK h1)
    · cases h
theorem ca_isi {X : Cx} : CallD X (.builtin "isinstance") gIsi := CallR.imp call_isi fun vs H Q ⟨p, s, ds, z, s', hs, rds, hg, hf⟩ => by
  unfold gIsi at hg
  split at hg
  · rename_i d n
    obtain ⟨v, w, rfl, rd, rd2⟩ := two_rd rds
    split at hg
    · rename_i t ht
      simp only [Option.map_eq_some_iff] at hg
      obtain ⟨b, hb, hq⟩ := hg
      cases hq
      cases rd2
      exact ⟨_, _, _, _, _, rfl, .ty n, tyD_rd hs rd ht, kit_ty hb, hf.now hs (.bl _)⟩
    · simp only [Option.map_eq_some_iff] at hg
      obtain ⟨b, hb, hq⟩ := hg
      cases hq
      cases rd2
      cases d <;> simp only [insB] at hb <;> try (cases hb; done)
      rename_i m
      split at hb
      · rename_i C fs hm
        have oc := own_rd hs rd hm
        obtain ⟨a, dx, us, rfl, ha1, _, _⟩ := ins_rd hs rd hm
        have ty : TyX X.K H (.ref a) (.ref C) := .base (.ins ha1 oc.cl oc.ha oc.hn oc.ht oc.hm)
        split at hb
        · rename_i hn
          cases hb
          rcases hn with rfl | rfl | rfl | rfl | rfl | rfl
          · exact ⟨_, _, _, _, _, rfl, .ty _, ty, oc.kt, hf.now hs (.bl _)⟩
          · exact ⟨_, _, _, _, _, rfl, .ty _, ty, oc.ki, hf.now hs (.bl _)⟩
          · exact ⟨_, _, _, _, _, rfl, .ty _, ty, oc.kb, hf.now hs (.bl _)⟩
          · exact ⟨_, _, _, _, _, rfl, .ty _, ty, oc.kl, hf.now hs (.bl _)⟩
          · exact ⟨_, _, _, _, _, rfl, .ty _, ty, oc.kd, hf.now hs (.bl _)⟩
          · exact ⟨_, _, _, _, _, rfl, .ty _, ty, oc.ks, hf.now hs (.bl _)⟩
        · cases hb
      · cases hb
  · cases hg
end DL
end
/-! ### DL6 -/
section
set_option linter.all false
set_option maxRecDepth 100000
/-! DL6: targets, statements, loops, comprehensions, a def by its body. -/
namespace DL
open PySem PySem.Spec L2
open PyProof.Rows hiding St
variable [Tbs]

/-! ### targets: names, and tuples of targets; only slots of vs change -/
structure TgOk (K : PySem.W.Frag) (g : TG) (mg : MG) (vs : List Nat) : Prop where
  st : ∀ d r s r' s', mg d r s = .ok r' s' → s' = s
  run : ∀ v t H Q p r s d r', RE K p H r t → RS K p s H → RD K p H d v → mg d r s = .ok r' s → (∀ t', RE K p H r' t' → (∀ j, j ∉ vs → t'[j]? = t[j]?) → t'.length = t.length → Q t' H) → g v t H Q
structure TgsOk (K : PySem.W.Frag) (g : TGs) (mg : List D → Env → Sto → R Env) (vs : List Nat) : Prop where
  st : ∀ d r s r' s', mg d r s = .ok r' s' → s' = s
  run : ∀ us t H Q p r s ds r', RE K p H r t → RS K p s H → RDs K p H ds us → mg ds r s = .ok r' s → (∀ t', RE K p H r' t' → (∀ j, j ∉ vs → t'[j]? = t[j]?) → t'.length = t.length → Q t' H) → g us t H Q
def mgName (i : Nat) : MG := fun d r s => .ok (r.set i (some d)) s
def mgNil : List D → Env → Sto → R Env := fun ds r s => match ds with
  | [] => .ok r s
  | _ => .bad
def mgCons (g : MG) (gs : List D → Env → Sto → R Env) : List D → Env → Sto → R Env := fun ds r s => match ds with
  | d :: ds => (g d r s).bind fun r1 s1 => gs ds r1 s1
  | [] => .bad
def mgTup (n : Nat) (gs : List D → Env → Sto → R Env) : MG := fun d r s => match d with
  | .tup ds => if ds.length = n then gs ds r s else .bad
  | _ => .bad
section
variable {K : PySem.W.Frag} {vs : List Nat}
theorem tg_name {i : Nat} (hi : i ∈ vs) : TgOk K (gName i) (mgName i) vs where
  st := fun d r s r' s' h => by simp only [mgName] at h; cases h; rfl
  run := fun v t H Q p r s d r' he hs rd h q => by
    simp only [mgName] at h; cases h
    refine q _ (he.set rd) (fun j hj => ?_) (by simp)
    have : i ≠ j := fun e => hj (e ▸ hi)
    rw [List.getElem?_set_ne this]
theorem tgs_nil : TgsOk K gNil mgNil vs where
  st := fun d r s r' s' h => by
    cases d <;> simp only [mgNil] at h <;> cases h; rfl
  run := fun us t H Q p r s ds r' he hs rd h q => by
    cases rd with
    | nil => simp only [mgNil] at h; cases h; exact ⟨rfl, q t he (fun _ _ => rfl) rfl⟩
    | cons _ _ => simp [mgNil] at h
theorem tgs_cons {g : TG} {gs : TGs} {mg : MG} {mgs : List D → Env → Sto → R Env} (h1 : TgOk K g mg vs) (h2 : TgsOk K gs mgs vs) : TgsOk K (gCons g gs) (mgCons mg mgs) vs where
  st := fun d r s r' s' h => by
    cases d with
    | nil => simp [mgCons] at h
    | cons d ds =>
      simp only [mgCons] at h
      cases hq : mg d r s with
      | ok r1 s1 => rw [hq] at h; exact (h2.st _ _ _ _ _ h).trans (h1.st _ _ _ _ _ hq)
      | exc _ _ => rw [hq] at h; cases h
      | bad => rw [hq] at h; cases h
  run := fun us t H Q p r s ds r' he hs rd h q => by
    cases rd with
    | nil => simp [mgCons] at h
    | cons rv rr =>
      simp only [mgCons] at h
      cases hq : mg _ r s with
      | ok r1 s1 =>
        rw [hq] at h
        simp only [R.bind_ok] at h
        have e1 := h1.st _ _ _ _ _ hq
        subst e1
        refine ⟨_, _, rfl, h1.run _ t H _ p r s1 _ r1 he hs rv hq fun t1 he1 k1 l1 => ?_⟩
        refine h2.run _ t1 H Q p r1 s1 _ r' he1 hs rr h fun t2 he2 k2 l2 => ?_
        exact q t2 he2 (fun j hj => (k2 j hj).trans (k1 j hj)) (l2.trans l1)
      | exc _ _ => rw [hq] at h; cases h
      | bad => rw [hq] at h; cases h
theorem tg_tup {n : Nat} {gs : TGs} {mgs : List D → Env → Sto → R Env} (h : TgsOk K gs mgs vs) : TgOk K (gTup K n gs) (mgTup n mgs) vs where
  st := fun d r s r' s' e => by
    cases d <;> simp only [mgTup] at e <;> try (cases e; done)
    split at e
    · exact h.st _ _ _ _ _ e
    · cases e
  run := fun v t H Q p r s d r' he hs rd e q => by
    cases rd <;> simp only [mgTup] at e <;> try (cases e; done)
    split at e
    · rename_i h1 r1 hl
      exact ⟨_, _, rfl, h1, by rw [← r1.length]; exact hl, h.run _ t H Q p r s _ r' he hs r1 e q⟩
    · cases e
end

/-! ### small statements -/
def mAsg (m : ME) (g : MG) : MS := fun r s => match m r s with
  | .ok d s1 => match g d r s1 with
    | .ok r1 s2 => .nx r1 s2
    | _ => .bad
  | .exc e s1 => .exc e r s1
  | .bad => .bad
def mSeq (m n : MS) : MS := fun r s => match m r s with
  | .nx r1 s1 => n r1 s1
  | x => x
def mNext : MS := fun r s => .nx r s
def mBrk : MS := fun r s => .bk r s
def mCt : MS := fun r s => .ct r s
def mDrop (m : ME) : MS := fun r s => match m r s with
  | .ok _ s1 => .nx r s1
  | .exc e s1 => .exc e r s1
  | .bad => .bad
def mRet (m : ME) : MS := fun r s => match m r s with
  | .ok d s1 => .rt d s1
  | .exc e s1 => .exc e r s1
  | .bad => .bad
def mIf (c : MT) (m n : MS) : MS := fun r s => match c r s with
  | .ok true s1 => m r s1
  | .ok false s1 => n r s1
  | .exc e s1 => .exc e r s1
  | .bad => .bad
def mNever : MS := fun _ _ => .bad
section
variable {X : Cx} {W : WX} {pos : Pos} {e : Expr} {m : ME} {st : Stmt} {rest : List Stmt} {u w : MS}
theorem dss_nil : DSs X W [] mNext := PSs.imp pss_nil fun Z t H ⟨p, r, s, he, hs, q⟩ => q p H t .refl hs he
theorem dss_cons (h1 : DS X W st u) (h2 : DSs X W rest w) : DSs X W (st :: rest) (mSeq u w) := PSs.imp (pss_cons h1 h2) fun Z t H ⟨p, r, s, he, hs, q⟩ => by
  refine ⟨p, r, s, he, hs, ?_⟩
  simp only [mSeq] at q
  cases hq : u r s with
  | nx r1 s1 => simp only [hq] at q; exact fun p' H' t' e' rs' re' => ⟨p', r1, s1, re', rs', pS.mono e' q⟩
  | rt _ _ => simp only [hq] at q; exact q
  | bk _ _ => simp only [hq] at q; exact q
  | ct _ _ => simp only [hq] at q; exact q
  | exc _ _ _ => simp only [hq] at q; exact q
  | bad => simp only [hq] at q; exact q
theorem dss_one (h1 : DS X W st u) : DSs X W [st] u := pss_one h1
theorem dss_never {sts : List Stmt} : DSs X W sts mNever := PSs.imp pss_never fun Z t H ⟨p, r, s, he, hs, q⟩ => q
theorem ds_expr (he : DE X W e m) (hs : swapsWith e none pos.line X.env = pure false := by rfl) : DS X W (.Expr e pos) (mDrop m) := PS.imp (ps_expr he hs) fun Z t H ⟨p, r, s, he, hs, q⟩ => by
  refine ⟨p, r, s, he, hs, ?_⟩
  simp only [mDrop] at q
  cases hq : m r s with
  | ok d s1 => simp only [hq] at q; exact fun p' H' e' rs' v _ => q p' H' t e' rs' (he.mono e')
  | exc x s1 => simp only [hq] at q; exact fun p' H' d e' rs' rx => q p' H' t d e' rs' (he.mono e') rx
  | bad => simp only [hq] at q; exact q
theorem ds_ret (he : DE X W e m) : DS X W (.Return (some e) pos) (mRet m) := PS.imp (ps_ret he) fun Z t H ⟨p, r, s, he, hs, q⟩ => by
  refine ⟨p, r, s, he, hs, ?_⟩
  simp only [mRet] at q
  cases hq : m r s with
  | ok d s1 => simp only [hq] at q; exact fun p' H' e' rs' v rd => q p' H' v e' rs' rd
  | exc x s1 => simp only [hq] at q; exact fun p' H' d e' rs' rx => q p' H' t d e' rs' (he.mono e') rx
  | bad => simp only [hq] at q; exact q
theorem ds_if {c : Expr} {a b : List Stmt} {mc : MT} (hc : DT X W c mc) (ha : DSs X W a u) (hb : DSs X W b w) : DS X W (.If c a b pos) (mIf mc u w) := PS.imp (ps_if hc ha hb) fun Z t H ⟨p, r, s, he, hs, q⟩ => by
  refine ⟨p, r, s, he, hs, ?_⟩
  simp only [mIf] at q
  cases hq : mc r s with
  | ok d s1 =>
    cases d with
    | true => simp only [hq] at q; exact fun p' H' e' rs' => iteT ⟨p', r, s1, he.mono e', rs', pS.mono e' q⟩
    | false => simp only [hq] at q; exact fun p' H' e' rs' => iteF ⟨p', r, s1, he.mono e', rs', pS.mono e' q⟩
  | exc x s1 => simp only [hq] at q; exact fun p' H' d e' rs' rx => q p' H' t d e' rs' (he.mono e') rx
  | bad => simp only [hq] at q; exact q
/-- target = e -/
theorem tAsg_of {g : TG} {mg : MG} {vs : List Nat} {Z : Ends} {t : L2.St} {H : Hp} (hg : TgOk X.K g mg vs) (q : tS X.K W (mAsg m mg) Z t H) : tAsg (tE X.K W m) g Z t H := by
  obtain ⟨p, r, s, he, hs, q⟩ := q
  refine ⟨p, r, s, he, hs, ?_⟩
  simp only [mAsg] at q
  cases hq : m r s with
  | ok d s1 =>
    simp only [hq] at q
    intro p' H' e' rs' v rd
    cases hq2 : mg d r s1 with
    | ok r1 s2 =>
      simp only [hq2] at q
      have e2 := hg.st _ _ _ _ _ hq2
      subst e2
      exact hg.run v t H' _ p' r s2 d r1 (he.mono e') rs' rd hq2 fun t' he' _ _ => q p' H' t' e' rs' he'
    | exc _ _ => simp only [hq2] at q; exact q.elim
    | bad => simp only [hq2] at q; exact q.elim
  | exc x s1 => simp only [hq] at q; exact fun p' H' d e' rs' rx => q p' H' t d e' rs' (he.mono e') rx
  | bad => simp only [hq] at q; exact q
theorem ds_set {i : Nat} {x : Str} {pos' : Pos} (hN : X.N.Nodup) (hi : X.N[i]? = some x) (hx : Loc X.env.scope x) (he : DE X W e m) (hs : swapsWith e (some (.Name x pos')) pos.line X.env = pure false := by rfl)
    (hf : X.fn x = true ∨ X.env.scope.names.lookup x = some .local := by first | exact .inl rfl | exact .inr rfl | assumption) : DS X W (.Assign [.Name x pos'] e pos) (mAsg m (mgName i)) :=
  PS.imp (ps_set hN hi hx he hs hf) fun _ _ _ q => tAsg_of (vs := [i]) (tg_name (by simp)) q
/-- a, b = x, y -/
def mPar (i j : Nat) (ma : MA) : MS := fun r s => match ma r s with
  | .ok [d, e] s1 => .nx ((r.set i (some d)).set j (some e)) s1
  | .ok _ _ => .bad
  | .exc e s1 => .exc e r s1
  | .bad => .bad
theorem ds_par {i j : Nat} {x y : Str} {a b : Expr} {ma : MA} {px py pt : Pos} {kt k2 pt2} (hc : X.calm = true) (hN : X.N.Nodup) (hi : X.N[i]? = some x) (hj : X.N[j]? = some y) (hij : i ≠ j)
    (hx : X.env.scope.names.lookup x = some .local) (hy : X.env.scope.names.lookup y = some .local) (ha : DA X W [a, b] ma)
    (hw : swappedStores [.Tuple [.Name x px, .Name y py] kt pt] (.Tuple [a, b] k2 pt2) X.env = pure (some [x, y]))
    (hs : swapsWithSole [.Tuple [.Name x px, .Name y py] kt pt] (.Tuple [a, b] k2 pt2) pos.line X.env = pure false := by rfl) :
    DS X W (.Assign [.Tuple [.Name x px, .Name y py] kt pt] (.Tuple [a, b] k2 pt2) pos) (mPar i j ma) := PS.imp (ps_par hc hN hi hj hij hx hy ha hw hs) fun Z t H ⟨p, r, s, he, hs, q⟩ => by
  refine ⟨p, r, s, he, hs, ?_⟩
  simp only [mPar] at q
  cases hq : ma r s with
  | ok ds s1 =>
    intro p' H' e' rs' vs rds
    cases rds with
    | nil => simp only [hq] at q; exact q.elim
    | cons r1 rr =>
      cases rr with
      | nil => simp only [hq] at q; exact q.elim
      | cons r2 rr =>
        cases rr with
        | cons _ _ => simp only [hq] at q; exact q.elim
        | nil =>
          simp only [hq] at q
          exact ⟨_, _, rfl, q p' H' _ e' rs' (((he.mono e').set r1).set r2)⟩
  | exc x s1 => simp only [hq] at q; exact fun p' H' d e' rs' rx => q p' H' t d e' rs' (he.mono e') rx
  | bad => simp only [hq] at q; exact q
end

/-! ### what is walked -/
open Classical in
noncomputable def guard (gs : List (Nat × Ob)) (s : Sto) : Bool := decide (∀ q ∈ gs, s[q.1]? = some q.2)
theorem guard_iff {gs : List (Nat × Ob)} {s : Sto} : guard gs s = true ↔ ∀ q ∈ gs, s[q.1]? = some q.2 := by simp [guard]
abbrev MI := Env → Sto → R (List D × List (Nat × Ob))
/-- J gives these data as long as the guards hold -/
def Str8 (K : PySem.W.Frag) (J : It) (p1 : List Addr) (H1 : Hp) (ds : List D) (gs : List (Nat × Ob)) : Prop := ∀ p H s, Ex p1 H1 p H → RS K p s H → guard gs s = true →
  (∀ i d, ds[i]? = some d → J.go i H ∧ ∀ x H', J.yld i H x H' → Ex p H p H' ∧ RS K p s H' ∧ RD K p H' d x) ∧ J.stop ds.length H
def iD (K : PySem.W.Frag) (W : WX) (mi : MI) : TI := fun t H Q => ∃ p r s, RE K p H r t ∧ RS K p s H ∧ pR K W t p H (mi r s) fun p' H' q _ => ∀ J, Str8 K J p' H' q.1 q.2 → Q J H'
abbrev DI (X : Cx) (W : WX) (tg e : Expr) (mi : MI) : Prop := PI X tg e (iD X.K W mi)
theorem PI.imp {X : Cx} {tg e : Expr} {t t' : TI} (h : PI X tg e t) (g : ∀ σ H Q, t' σ H Q → t σ H Q) : PI X tg e t' := ⟨fun pins s σ H Q I q => h.run pins s σ H Q I (g σ H Q q)⟩
theorem PI.or {X : Cx} {tg e : Expr} {t t' : TI} (h : PI X tg e t) (h' : PI X tg e t') : PI X tg e (fun σ H Q => t σ H Q ∨ t' σ H Q) := ⟨fun pins s σ H Q I q => q.elim (fun z => h.run pins s σ H Q I z) fun z => h'.run pins s σ H Q I z⟩
/-- the items of a list or tuple -/
def mIt (m : ME) : MI := fun r s => (m r s).bind fun d s1 => match d with
  | .tup ds => .ok (ds, []) s1
  | .loc n => (match s1[n]? with
    | some (.lst ds) => .ok (ds, [(n, .lst ds)]) s1
    | _ => .bad)
  | _ => .bad
theorem str_lst {K : PySem.W.Frag} {p1 : List Addr} {H1 : Hp} {n : Nat} {a : Addr} {ds : List D} (hn : p1[n]? = some a) : Str8 K (Itl K a) p1 H1 ds [(n, .lst ds)] := fun p H s ex rs g => by
  have e := guard_iff.mp g (n, .lst ds) (by simp)
  obtain ⟨a', o, q1, q2, q3⟩ := rs.mut e
  rw [ex.get hn] at q1; cases q1
  cases q3 with
  | lst r =>
    refine ⟨fun i d hd => ?_, ⟨_, SqL.of q2, by rw [← r.length]; exact Nat.le_refl _⟩⟩
    obtain ⟨v, hv, rv⟩ := r.get hd
    refine ⟨⟨_, v, SqL.of q2, hv⟩, fun x H' y => ?_⟩
    obtain ⟨rfl, y⟩ := y
    have := y _ (SqL.of q2)
    rw [hv] at this; cases this
    exact ⟨.refl, rs, rv⟩
theorem str_tup {K : PySem.W.Frag} {p1 : List Addr} {H1 : Hp} {a : Addr} {ds : List D} {vs : List V} (ht : SqT K H1 a vs) (rt : RDs K p1 H1 ds vs) : Str8 K (Itt K a) p1 H1 ds [] := fun p H s ex rs g => by
  refine ⟨fun i d hd => ?_, ⟨vs, ex.sqt ht, by rw [← rt.length]; exact Nat.le_refl _⟩⟩
  obtain ⟨v, hv, rv⟩ := rt.get hd
  refine ⟨⟨vs, v, ex.sqt ht, hv⟩, fun x H' y => ?_⟩
  obtain ⟨rfl, y⟩ := y
  have := y _ (ex.sqt ht)
  rw [hv] at this; cases this
  exact ⟨.refl, rs, rv.mono ex⟩
theorem str_rng {K : PySem.W.Frag} {p1 : List Addr} {H1 : Hp} {lo : Int} {n : Nat} : Str8 K (Itr lo n) p1 H1 ((List.range n).map fun (i : Nat) => D.int (lo + i)) [] := fun p H s ex rs g => by
  refine ⟨fun i d hd => ?_, ?_⟩
  · simp only [List.getElem?_map, Option.map_eq_some_iff] at hd
    obtain ⟨j, hj, rfl⟩ := hd
    have hl := (List.getElem?_eq_some_iff.mp hj)
    obtain ⟨h1, h2⟩ := hl
    simp at h1 h2
    subst h2
    refine ⟨h1, fun x H' y => ?_⟩
    obtain ⟨rfl, rfl⟩ := y
    exact ⟨.refl, rs, .int _⟩
  · show n ≤ _; simp
section
variable {X : Cx} {W : WX} {pos : Pos} {tg e : Expr} {m : ME}
theorem di_seq (h : DE X W e m) : DI X W tg e (mIt m) := PI.imp (PI.or (pi_list h) (pi_tup h)) fun t H Q ⟨p, r, s, he, hs, q⟩ => by
  cases hq : m r s with
  | ok d s1 =>
    simp only [mIt, hq, R.bind_ok] at q
    cases d with
    | tup ds =>
      refine .inr ⟨p, r, s, he, hs, ?_⟩
      rw [hq]
      intro p' H' e' rs' v rd
      cases rd with
      | tup h1 r1 => exact ⟨_, rfl, ⟨_, h1⟩, q p' H' e' rs' _ (str_tup h1 r1)⟩
    | loc n =>
      simp only at q
      split at q
      · rename_i ds hn
        refine .inl ⟨p, r, s, he, hs, ?_⟩
        rw [hq]
        intro p' H' e' rs' v rd
        obtain ⟨a, us, rfl, h1, h2, h3⟩ := lst_rd rs' rd hn
        exact ⟨a, rfl, ⟨us, SqL.of h1⟩, q p' H' e' rs' _ (str_lst h3)⟩
      · exact q.elim
    | _ => exact (show False from q).elim
  | exc x s1 =>
    simp only [mIt, hq, R.bind_exc] at q
    exact .inl ⟨p, r, s, he, hs, by rw [hq]; exact q⟩
  | bad => simp only [mIt, hq, R.bind_bad] at q; exact q.elim
/-- range(n), range(a, b) -/
def mRg1 (m : ME) : MI := fun r s => (m r s).bind fun d s1 => match d with
  | .int j => if -(2 ^ 62) ≤ j ∧ j < 2 ^ 62 then .ok ((List.range j.toNat).map fun (i : Nat) => D.int (0 + i), []) s1 else .bad
  | _ => .bad
def mRg2 (m n : ME) : MI := fun r s => (m r s).bind fun d s1 => (n r s1).bind fun e s2 => match d, e with
  | .int i, .int j => if -(2 ^ 62) ≤ i ∧ i < 2 ^ 62 ∧ -(2 ^ 62) ≤ j ∧ j < 2 ^ 62 then .ok ((List.range (j - i).toNat).map fun (k : Nat) => D.int (i + k), []) s2 else .bad
  | _, _ => .bad
theorem di_rg1 {a : Expr} {p : Pos} (hg : Gl X "range") (hm : X.mg "range" = none) (ha : DE X W a m) (hs : starEach [a] X.env = [(false, eval a X.env)] := by rfl) : DI X W tg (.Call (.Name "range" p) [a] [] pos) (mRg1 m) :=
  PI.imp (pi_range1 hg hm (pa_cons ha pa_nil (by rw [hs]; rfl)) hs) fun t H Q ⟨p, r, s, he, hs, q⟩ => by
    refine tE.stepK he hs q fun p1 H1 d v s1 e1 r1 he1 rd q1 => ?_
    cases rd <;> try (exact (show False from q1).elim)
    simp only at q1
    split at q1
    · rename_i hc
      exact ⟨_, rfl, hc.1, hc.2, q1 p1 H1 .refl r1 _ str_rng⟩
    · exact q1.elim
end

/-! ### for -/
noncomputable def mForGo (gs : List (Nat × Ob)) (tg : MG) (body : MS) : List D → Env → Sto → S
  | [], r, s => if guard gs s then .nx r s else .bad
  | d :: ds, r, s => if guard gs s then (match tg d r s with
    | .ok r1 s1 => (match body r1 s1 with
      | .nx r2 s2 => mForGo gs tg body ds r2 s2
      | .ct r2 s2 => mForGo gs tg body ds r2 s2
      | .bk r2 s2 => .nx r2 s2
      | .rt d s2 => .rt d s2
      | .exc e r2 s2 => .exc e r2 s2
      | .bad => .bad)
    | _ => .bad) else .bad
noncomputable def mFor (mi : MI) (tg : MG) (body : MS) : MS := fun r s => match mi r s with
  | .ok (ds, gs) s1 => mForGo gs tg body ds r s1
  | .exc e s1 => .exc e r s1
  | .bad => .bad
section
variable {X : Cx} {W : WX} {pos : Pos} {tg iter : Expr} {g : TG} {mg : MG} {vs : List Nat} {mi : MI} {body : List Stmt} {mb : MS}
theorem ds_for (po : PassesOwn (model X.prog X.w) X.A X.env X.xe) (hc : X.calm = true) (hi : DI X W tg iter mi) (hg : PG X tg g) (tk : TgOk X.K g mg vs) (hb : DSs X W body mb)
    (hs : ∀ x, foldedSetIterable iter X.env x = pure x := by intro _; rfl) : DS X W (.For tg iter body [] pos) (mFor mi mg mb) := PS.imp (ps_for po hc hi hg hb hs) fun Z t H ⟨p, r, s, he, hs, q⟩ => by
  refine ⟨p, r, s, he, hs, ?_⟩
  simp only [mFor] at q
  cases hq : mi r s with
  | exc x s1 => simp only [hq] at q; exact fun p' H' d e' rs' rx => q p' H' t d e' rs' (he.mono e') rx
  | bad => simp only [hq] at q; exact q
  | ok dg s1 =>
    obtain ⟨ds, gs⟩ := dg
    simp only [hq] at q
    intro p1 H1 e1 rs1 J str
    refine ⟨fun i m t' H' => ∃ p' r' s', m = ds.length - i ∧ i ≤ ds.length ∧ Ex p1 H1 p' H' ∧ RS X.K p' s' H' ∧ RE X.K p' H' r' t' ∧ pS X.K W Z p' H' (mForGo gs mg mb (ds.drop i) r' s'),
      ⟨ds.length, p1, r, s1, by simp, Nat.zero_le _, .refl, rs1, he.mono e1, pS.mono e1 q⟩, ?_⟩
    rintro i m t' H' ⟨p', r', s', rfl, hi, ex, rs, re, q⟩
    by_cases hlt : i < ds.length
    · have hd : ds[i]? = some ds[i] := by simp [hlt]
      have hdrop : ds.drop i = ds[i] :: ds.drop (i + 1) := List.drop_eq_getElem_cons hlt
      rw [hdrop] at q
      simp only [mForGo] at q
      split at q
      · rename_i hgd
        obtain ⟨hgo, hy⟩ := (str p' H' s' ex rs hgd).1 i _ hd
        refine .inr ⟨hgo, fun t2 H2 => ∃ p' r' s', Ex p1 H1 p' H2 ∧ RS X.K p' s' H2 ∧ RE X.K p' H2 r' t2 ∧ pS X.K W Z p' H2 (mForGo gs mg mb (ds.drop (i + 1)) r' s'), ?_, ?_⟩
        · rintro t2 H2 ⟨p2, r2, s2, ex2, rs2, re2, q2⟩
          exact ⟨ds.length - (i + 1), by omega, p2, r2, s2, rfl, hlt, ex2, rs2, re2, q2⟩
        · intro x H2 y
          obtain ⟨ex2, rs2, rd2⟩ := hy x H2 y
          cases hq2 : mg ds[i] r' s' with
          | exc _ _ => simp only [hq2] at q; exact q.elim
          | bad => simp only [hq2] at q; exact q.elim
          | ok r1 s2 =>
            simp only [hq2] at q
            have es := tk.st _ _ _ _ _ hq2
            subst es
            refine tk.run x t' H2 _ p' r' s2 _ r1 (re.mono ex2) rs2 rd2 hq2 fun t3 he3 _ _ => ?_
            refine ⟨p', r1, s2, he3, rs2, ?_⟩
            have q3 := pS.mono ex2 q
            cases hq3 : mb r1 s2 with
            | nx r4 s4 => simp only [hq3] at q3; exact fun p5 H5 t5 e5 rs5 re5 => ⟨p5, r4, s4, (ex.trans ex2).trans e5, rs5, re5, pS.mono e5 q3⟩
            | ct r4 s4 => simp only [hq3] at q3; exact fun p5 H5 t5 e5 rs5 re5 => ⟨p5, r4, s4, (ex.trans ex2).trans e5, rs5, re5, pS.mono e5 q3⟩
            | bk r4 s4 => simp only [hq3] at q3; exact q3
            | rt d s4 => simp only [hq3] at q3; exact q3
            | exc x r4 s4 => simp only [hq3] at q3; exact q3
            | bad => simp only [hq3] at q3; exact q3
      · exact q.elim
    · have hi' : i = ds.length := by omega
      subst hi'
      rw [List.drop_length] at q
      simp only [mForGo] at q
      split at q
      · rename_i hgd
        exact .inl ⟨(str p' H' s' ex rs hgd).2, q p' H' t' .refl rs re⟩
      · exact q.elim
end

/-! ### while: so many turns -/
def mWhN (c : MT) (body : MS) : Nat → Env → Sto → Option S
  | 0, _, _ => none
  | k + 1, r, s => match c r s with
    | .ok true s1 => (match body r s1 with
      | .nx r2 s2 => mWhN c body k r2 s2
      | .ct r2 s2 => mWhN c body k r2 s2
      | .bk r2 s2 => some (.nx r2 s2)
      | .rt d s2 => some (.rt d s2)
      | .exc e r2 s2 => some (.exc e r2 s2)
      | .bad => some .bad)
    | .ok false s1 => some (.nx r s1)
    | .exc e s1 => some (.exc e r s1)
    | .bad => some .bad
open Classical in
noncomputable def mWh (c : MT) (body : MS) : MS := fun r s => if h : ∃ k x, mWhN c body k r s = some x then Classical.choose (Classical.choose_spec h) else .bad
theorem mWhN_mono {c : MT} {body : MS} : ∀ {k : Nat} {r : Env} {s : Sto} {x : S}, mWhN c body k r s = some x → mWhN c body (k + 1) r s = some x
  | 0, _, _, _, h => by simp [mWhN] at h
  | k + 1, r, s, x, h => by
    rw [mWhN] at h ⊢
    cases hc : c r s with
    | ok b s1 =>
      cases b with
      | true =>
        simp only [hc] at h ⊢
        cases hb : body r s1 with
        | nx r2 s2 => simp only [hb] at h ⊢; exact mWhN_mono h
        | ct r2 s2 => simp only [hb] at h ⊢; exact mWhN_mono h
        | bk _ _ => simp only [hb] at h ⊢; exact h
        | rt _ _ => simp only [hb] at h ⊢; exact h
        | exc _ _ _ => simp only [hb] at h ⊢; exact h
        | bad => simp only [hb] at h ⊢; exact h
      | false => simp only [hc] at h ⊢; exact h
    | exc _ _ => simp only [hc] at h ⊢; exact h
    | bad => simp only [hc] at h ⊢; exact h
theorem mWhN_le {c : MT} {body : MS} {k j : Nat} {r : Env} {s : Sto} {x : S} (h : mWhN c body k r s = some x) (hk : k ≤ j) : mWhN c body j r s = some x := by
  induction hk with
  | refl => exact h
  | step _ ih => exact mWhN_mono ih
/-- the value by any number of turns that is enough -/
theorem mWh_eq {c : MT} {body : MS} {k : Nat} {r : Env} {s : Sto} {x : S} (h : mWhN c body k r s = some x) : mWh c body r s = x := by
  unfold mWh
  have hx : ∃ k x, mWhN c body k r s = some x := ⟨k, x, h⟩
  rw [dif_pos hx]
  have e := Classical.choose_spec (Classical.choose_spec hx)
  have e1 := mWhN_le e (Nat.le_max_left (Classical.choose hx) k)
  have e2 := mWhN_le h (Nat.le_max_right (Classical.choose hx) k)
  rw [e1] at e2
  exact Option.some.inj e2
section
variable {X : Cx} {W : WX} {pos : Pos} {c : Expr} {mc : MT} {body : List Stmt} {mb : MS}
theorem ds_while (po : PassesOwn (model X.prog X.w) X.A X.env X.xe) (hc : DT X W c mc) (hb : DSs X W body mb) : DS X W (.While c body [] pos) (mWh mc mb) := PS.imp (ps_while po hc hb) fun Z t H ⟨p, r, s, he, hs, q⟩ => by
  by_cases hx : ∃ k x, mWhN mc mb k r s = some x
  · obtain ⟨k, x, hk⟩ := hx
    rw [mWh_eq hk] at q
    refine ⟨fun m t' H' => ∃ p' r' s' x, mWhN mc mb m r' s' = some x ∧ RS X.K p' s' H' ∧ RE X.K p' H' r' t' ∧ pS X.K W Z p' H' x, ⟨k, p, r, s, x, hk, hs, he, q⟩, ?_⟩
    rintro m t' H' ⟨p', r', s', x, hm, rs, re, q⟩
    cases m with
    | zero => simp [mWhN] at hm
    | succ m =>
      rw [mWhN] at hm
      refine ⟨p', r', s', re, rs, ?_⟩
      cases hq : mc r' s' with
      | ok b s1 =>
        cases b with
        | true =>
          simp only [hq] at hm
          intro p2 H2 e2 rs2
          refine iteT ?_
          refine ⟨fun t3 H3 => ∃ p' r' s' x, mWhN mc mb m r' s' = some x ∧ RS X.K p' s' H3 ∧ RE X.K p' H3 r' t3 ∧ pS X.K W Z p' H3 x, fun t3 H3 h3 => ⟨m, Nat.lt_succ_self _, h3⟩, p2, r', s1, re.mono e2, rs2, ?_⟩
          cases hb : mb r' s1 with
          | nx r4 s4 => simp only [hb] at hm; exact fun p5 H5 t5 e5 rs5 re5 => ⟨p5, r4, s4, x, hm, rs5, re5, pS.mono (e2.trans e5) q⟩
          | ct r4 s4 => simp only [hb] at hm; exact fun p5 H5 t5 e5 rs5 re5 => ⟨p5, r4, s4, x, hm, rs5, re5, pS.mono (e2.trans e5) q⟩
          | bk r4 s4 => simp only [hb] at hm; cases hm; exact pS.mono e2 q
          | rt d s4 => simp only [hb] at hm; cases hm; exact pS.mono e2 q
          | exc x r4 s4 => simp only [hb] at hm; cases hm; exact pS.mono e2 q
          | bad => simp only [hb] at hm; cases hm; exact q
        | false =>
          simp only [hq] at hm
          cases hm
          intro p2 H2 e2 rs2
          refine iteF ?_
          exact q p2 H2 t' e2 rs2 (re.mono e2)
      | exc x s1 =>
        simp only [hq] at hm
        cases hm
        exact fun p2 H2 d e2 rs2 rx => q p2 H2 t' d e2 rs2 (re.mono e2) rx
      | bad => simp only [hq] at hm; cases hm; exact q
  · have : mWh mc mb r s = .bad := by unfold mWh; rw [dif_neg hx]
    rw [this] at q
    exact q.elim
end
end DL
end
/-! ### DL7 -/
section
set_option linter.all false
set_option maxRecDepth 100000
/-! DL7: comprehensions, locks. -/
namespace DL
open PySem PySem.Spec L2
open PyProof.Rows hiding St
variable [Tbs]

def del (H : Hp) (a : Addr) : Hp := fun b => if b = a then none else H b
theorem del_ne {H : Hp} {a b : Addr} (h : b ≠ a) : del H a b = H b := by unfold del; rw [if_neg h]
theorem del_same {H : Hp} {a : Addr} : del H a a = none := by unfold del; rw [if_pos rfl]
theorem upd_del {H : Hp} {a : Addr} {o : HO} (h : H a = some o) : upd (del H a) a o = H := by
  funext b
  by_cases e : b = a
  · rw [e, upd_same, h]
  · rw [upd_ne e, del_ne e]
section
variable {K : PySem.W.Frag} {p p' : List Addr} {H H' : Hp} {s : Sto} {a : Addr}
theorem ex0_del {o : HO} (h : H a = some o) (n : NoTup0 o) : Ex0 p H p (del H a) := ⟨⟨[], by simp⟩, fun b xs r => by
  have hb : b ≠ a := by
    rintro rfl
    rcases r with r | ⟨u, r⟩
    · rw [h] at r; cases r; exact n
    · rw [h] at r; cases r; exact n
  rcases r with r | ⟨u, r⟩
  · exact .inl (by rw [del_ne hb]; exact r)
  · exact .inr ⟨u, by rw [del_ne hb]; exact r⟩⟩
theorem RS.del {o : HO} (r : RS K p s H) (h : H a = some o) (n : NoTup0 o) (hn : a ∉ p) : RS K p s (del H a) := by
  refine ⟨r.len, r.nd, fun k ob b e1 e2 => ?_, fun x hx => tabS_chg (r.tab x hx) h n fun b hb => del_ne hb, fun x hx => cob_chg (r.cob x hx) h n fun b hb => del_ne hb, r.e0.trans (ex0_del h n)⟩
  obtain ⟨u, h1, h2⟩ := r.ob k ob b e1 e2
  have : b ≠ a := by
    rintro rfl
    exact hn (List.mem_of_getElem? e2)
  exact ⟨u, by rw [del_ne this]; exact h1, h2.mono0 (ex0_del h n)⟩
/-- what came beside the store is taken away again -/
theorem Ex.del {o : HO} (e : Ex p H p' H') (hn : H a = none) (h : H' a = some o) (n : NoTup o) : Ex p H p' (DL.del H' a) := by
  refine ⟨e.pre, fun b xs r => ?_, fun b u r hb tb => ?_, e.nw, fun b o2 u r => ?_⟩
  · have r' := e.tup b xs r
    have hb : b ≠ a := by
      rintro rfl
      rcases r' with r | ⟨u, r⟩
      · rw [h] at r; cases r; exact n
      · rw [h] at r; cases r; exact n
    rcases r' with q | ⟨u, q⟩
    · exact .inl (by rw [del_ne hb]; exact q)
    · exact .inr ⟨u, by rw [del_ne hb]; exact q⟩
  · rw [del_ne (ne_of_none r hn)]; exact e.fr b u r hb tb
  · rw [del_ne (ne_of_none r hn)]; exact e.fz b o2 u r
/-- what stands beside the store is changed -/
theorem ex_beside {o o' : HO} {p1 : List Addr} {H1 : Hp} (e : Ex p1 H1 p H) (hn : H1 a = none) (h : H a = some o) (n : NoTup o) : Ex p1 H1 p (upd H a o') := by
  refine ⟨e.pre, fun b xs r => ?_, fun b u r hb tb => ?_, e.nw, fun b o2 u r => ?_⟩
  · have r' := e.tup b xs r
    have hb : b ≠ a := by
      rintro rfl
      rcases r' with r | ⟨u, r⟩
      · rw [h] at r; cases r; exact n
      · rw [h] at r; cases r; exact n
    rcases r' with q | ⟨u, q⟩
    · exact .inl (by rw [upd_ne hb]; exact q)
    · exact .inr ⟨u, by rw [upd_ne hb]; exact q⟩
  · rw [upd_ne (ne_of_none r hn)]; exact e.fr b u r hb tb
  · rw [upd_ne (ne_of_none r hn)]; exact e.fz b o2 u r
theorem RS.beside2 {o o' : HO} (r : RS K p s H) (hn : a ∉ p) (h : H a = some o) (n : NoTup0 o) : RS K p s (upd H a o') := by
  refine ⟨r.len, r.nd, fun k ob b e1 e2 => ?_, fun x hx => tabS_chg (r.tab x hx) h n fun b hb => upd_ne hb, fun x hx => cob_chg (r.cob x hx) h n fun b hb => upd_ne hb, r.e0.trans (ex0_upd h n)⟩
  obtain ⟨u, h1, h2⟩ := r.ob k ob b e1 e2
  have : b ≠ a := by
    rintro rfl
    exact hn (List.mem_of_getElem? e2)
  exact ⟨u, by rw [upd_ne this]; exact h1, h2.mono0 (ex0_upd h n)⟩
end
def wipeD (r : Env) : List Nat → Env
  | [] => r
  | v :: vs => (wipeD r vs).set v none
theorem RE.wipe {K : PySem.W.Frag} {p : List Addr} {H : Hp} {r : Env} {t : L2.St} (h : RE K p H r t) : ∀ vs : List Nat, RE K p H (wipeD r vs) (wipe t vs)
  | [] => h
  | v :: vs => (RE.wipe h vs).unset v
theorem wipe_in {t : L2.St} {i : Nat} : ∀ {vs : List Nat}, i ∈ vs → (wipe t vs)[i]? = if i < t.length then some none else none
  | [], h => by cases h
  | v :: vs, h => by
    unfold wipe
    by_cases e : v = i
    · subst e
      by_cases hl : v < t.length
      · rw [if_pos hl, List.getElem?_set_self (by rw [wipe_length]; exact hl)]
      · rw [if_neg hl, List.getElem?_eq_none (by rw [List.length_set, wipe_length]; omega)]
    · have hm : i ∈ vs := (List.mem_cons.mp h).resolve_left (fun z => e z.symm)
      rw [List.getElem?_set_ne e]
      exact wipe_in hm
theorem wipe_eq {t t' : L2.St} {vs : List Nat} (h : ∀ j, j ∉ vs → t'[j]? = (wipe t vs)[j]?) (hl : t'.length = (wipe t vs).length) : wipe t' vs = wipe t vs := by
  apply List.ext_getElem?
  intro i
  by_cases hi : i ∈ vs
  · rw [wipe_in hi, wipe_in hi, hl, wipe_length]
  · rw [wipe_out hi, h i hi]
abbrev W0 : WX := fun _ _ _ _ => False
noncomputable def mLcGo (gs : List (Nat × Ob)) (tg : MG) (tt : MT) (te : ME) (r : Env) : List D → Sto → List D → R (List D)
  | [], s, acc => if guard gs s then .ok acc s else .bad
  | d :: ds, s, acc => if guard gs s then (match tg d r s with
    | .ok r1 s1 => (match tt r1 s1 with
      | .ok true s2 => (match te r1 s2 with
        | .ok y s3 => if acc.length < sizeLine then mLcGo gs tg tt te r ds s3 (acc ++ [y]) else .bad
        | _ => .bad)
      | .ok false s2 => mLcGo gs tg tt te r ds s2 acc
      | _ => .bad)
    | _ => .bad) else .bad
noncomputable def mLc (mi : MI) (tg : MG) (tt : MT) (te : ME) (vs : List Nat) : MA := fun r s => (mi r s).bind fun q s1 => mLcGo q.2 tg tt te (wipeD r vs) q.1 s1 []
def mYes : MT := fun _ s => .ok true s
section
variable {K : PySem.W.Frag} {W : WX} {g : TG} {mg : MG} {vs : List Nat} {mi : MI} {tt : MT} {te : ME}
theorem lc_read (tk : TgOk K g mg vs) {t : L2.St} {H : Hp} {Q : VK} (q : tL K W (mLc mi mg tt te vs) t H Q) : tLc (iD K W mi) g (tT K W0 tt) (tE K W0 te) vs t H Q := by
  obtain ⟨p, r, s, he, hs, q⟩ := q
  refine ⟨p, r, s, he, hs, (pR.bind q).imp fun p1 H1 dg s1 e1 rs1 q1 J str D hD => ?_⟩
  obtain ⟨ds, gs⟩ := dg
  dsimp only at q1 str
  have he1 := (he.mono e1).wipe vs
  refine ⟨fun i m H' => ∃ p' s' acc us, m = ds.length - i ∧ i ≤ ds.length ∧ H' D = some (.lst us) ∧ D ∉ p' ∧ Ex p1 H1 p' H' ∧ RS K p' s' H' ∧ RDs K p' H' acc us ∧
    pR K W t p1 H1 (mLcGo gs mg tt te (wipeD r vs) (ds.drop i) s' acc) fun p' H' ds _ => ∀ a vs, H' a = none → RDs K p' H' ds vs → Q (.ref a) (upd H' a (.lst vs)),
    ⟨ds.length, p1, s1, [], [], by simp, Nat.zero_le _, upd_same, rs1.fresh hD, ex_new0 hD, rs1.beside hD, .nil, q1⟩, ?_⟩
  rintro i m H' ⟨p', s', acc, us, rfl, hi, hDu, hDp, ex, rs, ra, q⟩
  by_cases hlt : i < ds.length
  · have hd : ds[i]? = some ds[i] := by simp [hlt]
    have hdrop : ds.drop i = ds[i] :: ds.drop (i + 1) := List.drop_eq_getElem_cons hlt
    rw [hdrop] at q
    simp only [mLcGo] at q
    split at q
    · rename_i hgd
      obtain ⟨hgo, hy⟩ := (str p' H' s' ex rs hgd).1 i _ hd
      refine .inr ⟨hgo, fun H2 => ∃ p' s' acc us, H2 D = some (.lst us) ∧ D ∉ p' ∧ Ex p1 H1 p' H2 ∧ RS K p' s' H2 ∧ RDs K p' H2 acc us ∧
        pR K W t p1 H1 (mLcGo gs mg tt te (wipeD r vs) (ds.drop (i + 1)) s' acc) fun p' H' ds _ => ∀ a vs, H' a = none → RDs K p' H' ds vs → Q (.ref a) (upd H' a (.lst vs)), ?_, ?_⟩
      · rintro H2 ⟨p2, s2, acc2, us2, a1, a2, a3, a4, a5, a6⟩
        exact ⟨ds.length - (i + 1), by omega, p2, s2, acc2, us2, rfl, hlt, a1, a2, a3, a4, a5, a6⟩
      · intro x H2 y
        obtain ⟨ex2, rs2, rd2⟩ := hy x H2 y
        have hD2 : H2 D = some (.lst us) := ex2.fr D _ hDu hDp trivial
        cases hq2 : mg ds[i] (wipeD r vs) s' with
        | exc _ _ => simp only [hq2] at q; exact q.elim
        | bad => simp only [hq2] at q; exact q.elim
        | ok r1 s2 =>
          simp only [hq2] at q
          have es := tk.st _ _ _ _ _ hq2
          subst es
          refine tk.run x (wipe t vs) H2 _ p' (wipeD r vs) s2 _ r1 ((he1.mono ex).mono ex2) rs2 rd2 hq2 fun t3 he3 k3 l3 => ?_
          refine ⟨wipe_eq k3 l3, p', r1, s2, he3, rs2, ?_⟩
          cases hq3 : tt r1 s2 with
          | exc _ _ => simp only [hq3] at q; exact q.elim
          | bad => simp only [hq3] at q; exact q.elim
          | ok b s3 =>
            intro p3 H3 ex3 rs3
            have hD3 : H3 D = some (.lst us) := ex3.fr D _ hD2 hDp trivial
            have hDp3 : D ∉ p3 := fun hm => ex3.nw D hm hDp _ hD2 trivial
            cases b with
            | false =>
              simp only [hq3] at q
              exact iteF ⟨p3, s3, acc, us, hD3, hDp3, (ex.trans ex2).trans ex3, rs3, (ra.mono ex2).mono ex3, q⟩
            | true =>
              simp only [hq3] at q
              refine iteT ⟨p3, r1, s3, he3.mono ex3, rs3, ?_⟩
              cases hq4 : te r1 s3 with
              | exc _ _ => simp only [hq4] at q; exact q.elim
              | bad => simp only [hq4] at q; exact q.elim
              | ok y s4 =>
                simp only [hq4] at q
                intro p4 H4 ex4 rs4 v rv
                have hD4 : H4 D = some (.lst us) := ex4.fr D _ hD3 hDp3 trivial
                have hDp4 : D ∉ p4 := fun hm => ex4.nw D hm hDp3 _ hD3 trivial
                have ra4 := ((ra.mono ex2).mono ex3).mono ex4
                split at q
                · rename_i hl
                  have e0 : Ex0 p4 H4 p4 (upd H4 D (.lst (us ++ [v]))) := ex0_upd hD4 trivial
                  exact ⟨us, hD4, by rw [← ra4.length]; exact hl, p4, s4, acc ++ [y], us ++ [v], upd_same, hDp4, ex_beside (((ex.trans ex2).trans ex3).trans ex4) hD hD4 trivial, rs4.beside2 hDp4 hD4 trivial,
                    (ra4.append (.cons rv .nil)).mono0 e0, q⟩
                · exact q.elim
    · exact q.elim
  · have hi' : i = ds.length := by omega
    subst hi'
    rw [List.drop_length] at q
    simp only [mLcGo] at q
    split at q
    · rename_i hgd
      refine .inl ⟨(str p' H' s' ex rs hgd).2, ?_⟩
      have := q p' (del H' D) (ex.del hD hDu trivial) (rs.del hDu trivial hDp) D us del_same (ra.mono0 (ex0_del hDu trivial))
      rw [upd_del hDu] at this
      exact this
    · exact q.elim
end
section
variable {X : Cx} {W : WX}
theorem dl_lc {elt tg iter : Expr} {ifs : List Expr} {scope : Scope} {own : List (Str × Nat)} {pos : Pos} {mi : MI} {g : TG} {mg : MG} {tt : MT} {te : ME} (hc : X.calm = true) (hN : X.N.Nodup) (tk : TgOk X.K g mg (own.map (·.2))) (hi : DI X W tg iter mi) (ok : BlkOk X.N X.env.scope scope own)
    (hg : ∀ (s : Shared) (H : Hp) (C : Addr) (cl : List (Str × Addr)) (fp : List Addr), PG (X.blk s H scope (compEnvC scope cl C X.env) fp) tg g) (ht : ∀ (s : Shared) (H : Hp) (C : Addr) (cl : List (Str × Addr)) (fp : List Addr), PTs (X.blk s H scope (compEnvC scope cl C X.env) fp) ifs (tT X.K W0 tt))
    (he : ∀ (s : Shared) (H : Hp) (C : Addr) (cl : List (Str × Addr)) (fp : List Addr), DE (X.blk s H scope (compEnvC scope cl C X.env) fp) W0 elt te) (hs : ∀ x, foldedSetIterable iter X.env x = pure x := by intro _; rfl) :
    DLs X W (.ListComp elt [⟨tg, iter, ifs, 0⟩] scope pos) (mLc mi mg tt te (own.map (·.2))) := PE.imp (pe_lc hc hN hi ok hg ht he hs) fun _ _ _ q => lc_read tk q
theorem dts_nil : PTs X [] (tT X.K W0 mYes) := ⟨fun pins s σ H Q I h => by
  obtain ⟨p, r, st, he, hs, q⟩ := h
  exact pts_nil.run pins s σ H Q I (q p H .refl hs)⟩
theorem dts_one {c : Expr} {t : MT} (h : DT X W0 c t) : PTs X [c] (tT X.K W0 t) := pts_one h
end
end DL
end
/-! ### DL8 -/
section
set_option linter.all false
set_option maxRecDepth 100000
/-! DL8: dict comprehensions, locked dicts, stores by subscript, methods of lists and dicts. -/
namespace DL
open PySem PySem.Spec L2
open PyProof.Rows hiding St
variable [Tbs]

/-! ### an expression whose value is a dict just made -/
abbrev MD := Env → Sto → R (List (Key × D))
def tDk (K : PySem.W.Frag) (W : WX) (m : MD) : TE := fun t H Q => ∃ p r s, RE K p H r t ∧ RS K p s H ∧ pR K W t p H (m r s) fun p' H' ds _ => ∀ a vs, H' a = none → RF K p' H' ds vs → Q (.ref a) (upd H' a (.dK vs))
abbrev DDk (X : Cx) (W : WX) (e : Expr) (m : MD) : Prop := PE X e (tDk X.K W m)
def mNewD (m : MD) : ME := fun r s => (m r s).bind fun ds s1 => .ok (.loc s1.length) (s1 ++ [.dct ds])
theorem newD_of {K : PySem.W.Frag} {W : WX} {m : MD} {t : L2.St} {H : Hp} {Q : VK} (q : tE K W (mNewD m) t H Q) : tDk K W m t H Q := by
  obtain ⟨p, r, s, he, hs, q⟩ := q
  refine ⟨p, r, s, he, hs, (pR.bind q).imp fun p1 H1 ds s1 e1 r1 q1 a vs ha rds => ?_⟩
  exact q1 (p1 ++ [a]) _ (ex_new ha) (r1.push ha (.dct (rds.mono (ex_new ha)))) _ (.loc (by rw [← r1.len]; simp))
theorem de_newD {X : Cx} {W : WX} {e : Expr} {m : MD} (h : DDk X W e m) : DE X W e (mNewD m) := PE.imp h fun _ _ _ q => newD_of q

noncomputable def mDcGo (gs : List (Nat × Ob)) (tg : MG) (tt : MT) (tk tv : ME) (r : Env) : List D → Sto → List (Key × D) → R (List (Key × D))
  | [], s, acc => if guard gs s then .ok acc s else .bad
  | d :: ds, s, acc => if guard gs s then (match tg d r s with
    | .ok r1 s1 => (match tt r1 s1 with
      | .ok true s2 => (match tk r1 s2 with
        | .ok k s3 => (match tv r1 s3 with
          | .ok v s4 => (match keyD k with
            | some k => if acc.length < sizeLine then mDcGo gs tg tt tk tv r ds s4 (dPut acc k v) else .bad
            | none => .bad)
          | _ => .bad)
        | _ => .bad)
      | .ok false s2 => mDcGo gs tg tt tk tv r ds s2 acc
      | _ => .bad)
    | _ => .bad) else .bad
noncomputable def mDc (mi : MI) (tg : MG) (tt : MT) (tk tv : ME) (vs : List Nat) : MD := fun r s => (mi r s).bind fun q s1 => mDcGo q.2 tg tt tk tv (wipeD r vs) q.1 s1 []
section
variable {K : PySem.W.Frag} {W : WX} {g : TG} {mg : MG} {vs : List Nat} {mi : MI} {tt : MT} {mk tv : ME}
theorem dc_read (tk : TgOk K g mg vs) {t : L2.St} {H : Hp} {Q : VK} (q : tDk K W (mDc mi mg tt mk tv vs) t H Q) : tDc (iD K W mi) g (tT K W0 tt) (tE K W0 mk) (tE K W0 tv) vs t H Q := by
  obtain ⟨p, r, s, he, hs, q⟩ := q
  refine ⟨p, r, s, he, hs, (pR.bind q).imp fun p1 H1 dg s1 e1 rs1 q1 J str D hD => ?_⟩
  obtain ⟨ds, gs⟩ := dg
  dsimp only at q1 str
  have he1 := (he.mono e1).wipe vs
  refine ⟨fun i m H' => ∃ p' s' acc us, m = ds.length - i ∧ i ≤ ds.length ∧ H' D = some (.dK us) ∧ D ∉ p' ∧ Ex p1 H1 p' H' ∧ RS K p' s' H' ∧ RF K p' H' acc us ∧
    pR K W t p1 H1 (mDcGo gs mg tt mk tv (wipeD r vs) (ds.drop i) s' acc) fun p' H' ds _ => ∀ a vs, H' a = none → RF K p' H' ds vs → Q (.ref a) (upd H' a (.dK vs)),
    ⟨ds.length, p1, s1, [], [], by simp, Nat.zero_le _, upd_same, rs1.fresh hD, ex_new0 hD, rs1.beside hD, .nil, q1⟩, ?_⟩
  rintro i m H' ⟨p', s', acc, us, rfl, hi, hDu, hDp, ex, rs, ra, q⟩
  by_cases hlt : i < ds.length
  · have hd : ds[i]? = some ds[i] := by simp [hlt]
    have hdrop : ds.drop i = ds[i] :: ds.drop (i + 1) := List.drop_eq_getElem_cons hlt
    rw [hdrop] at q
    simp only [mDcGo] at q
    split at q
    · rename_i hgd
      obtain ⟨hgo, hy⟩ := (str p' H' s' ex rs hgd).1 i _ hd
      refine .inr ⟨hgo, fun H2 => ∃ p' s' acc us, H2 D = some (.dK us) ∧ D ∉ p' ∧ Ex p1 H1 p' H2 ∧ RS K p' s' H2 ∧ RF K p' H2 acc us ∧
        pR K W t p1 H1 (mDcGo gs mg tt mk tv (wipeD r vs) (ds.drop (i + 1)) s' acc) fun p' H' ds _ => ∀ a vs, H' a = none → RF K p' H' ds vs → Q (.ref a) (upd H' a (.dK vs)), ?_, ?_⟩
      · rintro H2 ⟨p2, s2, acc2, us2, a1, a2, a3, a4, a5, a6⟩
        exact ⟨ds.length - (i + 1), by omega, p2, s2, acc2, us2, rfl, hlt, a1, a2, a3, a4, a5, a6⟩
      · intro x H2 y
        obtain ⟨ex2, rs2, rd2⟩ := hy x H2 y
        have hD2 : H2 D = some (.dK us) := ex2.fr D _ hDu hDp trivial
        cases hq2 : mg ds[i] (wipeD r vs) s' with
        | exc _ _ => simp only [hq2] at q; exact q.elim
        | bad => simp only [hq2] at q; exact q.elim
        | ok r1 s2 =>
          simp only [hq2] at q
          have es := tk.st _ _ _ _ _ hq2
          subst es
          refine tk.run x (wipe t vs) H2 _ p' (wipeD r vs) s2 _ r1 ((he1.mono ex).mono ex2) rs2 rd2 hq2 fun t3 he3 k3 l3 => ?_
          refine ⟨wipe_eq k3 l3, p', r1, s2, he3, rs2, ?_⟩
          cases hq3 : tt r1 s2 with
          | exc _ _ => simp only [hq3] at q; exact q.elim
          | bad => simp only [hq3] at q; exact q.elim
          | ok b s3 =>
            intro p3 H3 ex3 rs3
            have hD3 : H3 D = some (.dK us) := ex3.fr D _ hD2 hDp trivial
            have hDp3 : D ∉ p3 := fun hm => ex3.nw D hm hDp _ hD2 trivial
            cases b with
            | false =>
              simp only [hq3] at q
              exact iteF ⟨p3, s3, acc, us, hD3, hDp3, (ex.trans ex2).trans ex3, rs3, (ra.mono ex2).mono ex3, q⟩
            | true =>
              simp only [hq3] at q
              refine iteT ⟨p3, r1, s3, he3.mono ex3, rs3, ?_⟩
              cases hq4 : mk r1 s3 with
              | exc _ _ => simp only [hq4] at q; exact q.elim
              | bad => simp only [hq4] at q; exact q.elim
              | ok y s4 =>
                simp only [hq4] at q
                intro p4 H4 ex4 rs4 v rv
                have hD4 : H4 D = some (.dK us) := ex4.fr D _ hD3 hDp3 trivial
                have hDp4 : D ∉ p4 := fun hm => ex4.nw D hm hDp3 _ hD3 trivial
                refine ⟨p4, r1, s4, (he3.mono ex3).mono ex4, rs4, ?_⟩
                cases hq5 : tv r1 s4 with
                | exc _ _ => simp only [hq5] at q; exact q.elim
                | bad => simp only [hq5] at q; exact q.elim
                | ok z s5 =>
                  simp only [hq5] at q
                  intro p5 H5 ex5 rs5 w rw5
                  have hD5 : H5 D = some (.dK us) := ex5.fr D _ hD4 hDp4 trivial
                  have hDp5 : D ∉ p5 := fun hm => ex5.nw D hm hDp4 _ hD4 trivial
                  have ra5 := (((ra.mono ex2).mono ex3).mono ex4).mono ex5
                  split at q
                  · rename_i k hk
                    split at q
                    · rename_i hl
                      have e0 : Ex0 p5 H5 p5 (upd H5 D (.dK (putK us k w))) := ex0_upd hD5 trivial
                      exact ⟨us, k, keyD_rd (rv.mono ex5) hk, hD5, by rw [← ra5.length]; exact hl, p5, s5, dPut acc k z, putK us k w, upd_same, hDp5,
                        ex_beside ((((ex.trans ex2).trans ex3).trans ex4).trans ex5) hD hD5 trivial, rs5.beside2 hDp5 hD5 trivial, (dPut_rd rw5 ra5).mono0 e0, q⟩
                    · exact q.elim
                  · exact q.elim
    · exact q.elim
  · have hi' : i = ds.length := by omega
    subst hi'
    rw [List.drop_length] at q
    simp only [mDcGo] at q
    split at q
    · rename_i hgd
      refine .inl ⟨(str p' H' s' ex rs hgd).2, ?_⟩
      have := q p' (del H' D) (ex.del hD hDu trivial) (rs.del hDu trivial hDp) D us del_same (ra.mono0 (ex0_del hDu trivial))
      rw [upd_del hDu] at this
      exact this
    · exact q.elim
end
section
variable {X : Cx} {W : WX}
theorem dk_dc {kx vx tg iter : Expr} {ifs : List Expr} {scope : Scope} {own : List (Str × Nat)} {pos : Pos} {mi : MI} {g : TG} {mg : MG} {tt : MT} {mk tv : ME} (hc : X.calm = true) (hN : X.N.Nodup) (tk : TgOk X.K g mg (own.map (·.2))) (hi : DI X W tg iter mi) (ok : BlkOk X.N X.env.scope scope own)
    (hg : ∀ (s : Shared) (H : Hp) (C : Addr) (cl : List (Str × Addr)) (fp : List Addr), PG (X.blk s H scope (compEnvC scope cl C X.env) fp) tg g) (ht : ∀ (s : Shared) (H : Hp) (C : Addr) (cl : List (Str × Addr)) (fp : List Addr), PTs (X.blk s H scope (compEnvC scope cl C X.env) fp) ifs (tT X.K W0 tt))
    (hk : ∀ (s : Shared) (H : Hp) (C : Addr) (cl : List (Str × Addr)) (fp : List Addr), DE (X.blk s H scope (compEnvC scope cl C X.env) fp) W0 kx mk) (he : ∀ (s : Shared) (H : Hp) (C : Addr) (cl : List (Str × Addr)) (fp : List Addr), DE (X.blk s H scope (compEnvC scope cl C X.env) fp) W0 vx tv)
    (hs : ∀ x, foldedSetIterable iter X.env x = pure x := by intro _; rfl) :
    DDk X W (.DictComp kx vx [⟨tg, iter, ifs, 0⟩] scope pos) (mDc mi mg tt mk tv (own.map (·.2))) := PE.imp (pe_dc hc hN hi ok hg ht hk he hs) fun _ _ _ q => dc_read tk q
end

/-! ### a dict that is locked while it is walked -/
/-- the dict that an expression names is locked, m runs, the dict is set free -/
def unlock {α : Type} (n : Nat) : R α → R α
  | .ok a s => match s[n]? with
    | some (.lok kvs) => .ok a (s.set n (.dct kvs))
    | _ => .bad
  | _ => .bad
def unlockS (n : Nat) : S → S
  | .nx r s => match s[n]? with
    | some (.lok kvs) => .nx r (s.set n (.dct kvs))
    | _ => .bad
  | .rt d s => match s[n]? with
    | some (.lok kvs) => .rt d (s.set n (.dct kvs))
    | _ => .bad
  | _ => .bad
def lockAt (mo : ME) (r : Env) (s : Sto) : Option (Nat × List (Key × D)) := match mo r s with
  | .ok (.loc n) _ => (match s[n]? with
    | some (.dct kvs) => some (n, kvs)
    | _ => none)
  | _ => none
def mLock {α : Type} (mo : ME) (m : Env → Sto → R α) : Env → Sto → R α := fun r s => match lockAt mo r s with
  | some (n, kvs) => unlock n (m r (s.set n (.lok kvs)))
  | none => .bad
def mLockS (mo : ME) (m : MS) : MS := fun r s => match lockAt mo r s with
  | some (n, kvs) => unlockS n (m r (s.set n (.lok kvs)))
  | none => .bad
section
variable {K : PySem.W.Frag} {p p' : List Addr} {H H' : Hp} {s s' : Sto} {n : Nat} {d : Addr} {kvs kvs' : List (Key × D)} {us : List (Key × V)} {od : Obj}
theorem lockAt_dct {mo : ME} {r : Env} (h : lockAt mo r s = some (n, kvs)) : s[n]? = some (.dct kvs) := by
  unfold lockAt at h
  split at h
  · split at h
    · rename_i hk
      cases h
      exact hk
    · cases h
  · cases h
theorem RS.lock (hs : RS K p s H) (hp : p[n]? = some d) (hd : H d = some (.dK us)) (r : RF K p H kvs us) : RS K p (s.set n (.lok kvs)) (upd H d (.frz od (.dK us))) ∧ Ex p H p (upd H d (.frz od (.dK us))) := by
  have ex : Ex p H p (upd H d (.frz od (.dK us))) := ex_upd hp hd trivial
  exact ⟨hs.put hp hd trivial (.lok (r.mono ex)), ex⟩
/-- free again -/
theorem RS.free (hs : RS K p' s' H') (ex : Ex p (upd H d (.frz od (.dK us))) p' H') (hp : p[n]? = some d) (hd : H d = some (.dK us)) (hk : s'[n]? = some (.lok kvs')) :
    RS K p' (s'.set n (.dct kvs')) (upd H' d (.dK us)) ∧ Ex p H p' (upd H' d (.dK us)) ∧ Ex0 p' H' p' (upd H' d (.dK us)) ∧ H' d = some (.frz od (.dK us)) := by
  have hd' : H' d = some (.frz od (.dK us)) := ex.fz d _ _ upd_same
  have hp' := ex.get hp
  have e0 : Ex0 p' H' p' (upd H' d (.dK us)) := ex0_upd hd' trivial
  obtain ⟨a, o, q1, q2, q3⟩ := hs.mut hk
  rw [hp'] at q1; cases q1
  rw [hd'] at q2; cases q2
  cases q3 with
  | lok r =>
    have ne : ∀ {b : Addr} {o : HO}, (upd H d (.frz od (.dK us))) b = some o → b ≠ d → H b = some o := fun h hb => by rw [upd_ne hb] at h; exact h
    refine ⟨hs.put hp' hd' trivial (.dct (r.mono0 e0)), ⟨ex.pre, fun b xs h => ?_, fun b u h hb tb => ?_, fun b h1 h2 => ?_, fun b o2 u h => ?_⟩, e0, hd'⟩
    · have hb : b ≠ d := by
        rintro rfl
        rcases h with h | ⟨u, h⟩ <;> · rw [hd] at h; cases h
      have h' : Rd (upd H d (.frz od (.dK us))) b (.tup xs) := by
        rcases h with h | ⟨u, h⟩
        · exact .inl (by rw [upd_ne hb]; exact h)
        · exact .inr ⟨u, by rw [upd_ne hb]; exact h⟩
      exact e0.tup b xs (ex.tup b xs h')
    · have hbd : b ≠ d := by
        rintro rfl
        exact hb (List.mem_of_getElem? hp)
      rw [upd_ne hbd]
      exact ex.fr b u (by rw [upd_ne hbd]; exact h) hb tb
    · have hbd : b ≠ d := by
        rintro rfl
        exact h2 (List.mem_of_getElem? hp)
      have := ex.nw b h1 h2
      rw [upd_ne hbd] at this; exact this
    · have hbd : b ≠ d := by
        rintro rfl
        rw [hd] at h; cases h
      rw [upd_ne hbd]
      exact ex.fz b o2 u (by rw [upd_ne hbd]; exact h)
end
section
variable {X : Cx} {W : WX} {e : Expr} {st : Stmt} {mo m : ME} {u : MS}
theorem dl_lock {m : MA} (h : DLs X W e m) : DLs X W e (mLock mo m) := PE.imp (pe_lock h) fun t H Q ⟨p, r, s, he, hs, q⟩ => by
  unfold mLock at q
  split at q
  · rename_i n kvs hl
    have hk := lockAt_dct hl
    obtain ⟨d, o, q1, q2, q3⟩ := hs.mut hk
    cases q3 with
    | dct rf =>
      rename_i us
      refine ⟨d, _, q2, trivial, fun od => ?_⟩
      obtain ⟨rs1, ex1⟩ := hs.lock (od := od) q1 q2 rf
      refine ⟨p, r, _, he.mono ex1, rs1, ?_⟩
      cases hq : m r (s.set n (.lok kvs)) with
      | exc _ _ => simp only [hq, unlock] at q; exact q.elim
      | bad => simp only [hq, unlock] at q; exact q.elim
      | ok z s2 =>
        simp only [hq, unlock] at q
        split at q
        · rename_i kvs2 hk2
          intro p' H' ex rs a vs ha rv
          obtain ⟨rs2, ex2, e0, hd'⟩ := rs.free ex q1 q2 hk2
          have hne : d ≠ a := ne_of_none hd' ha
          refine ⟨by rw [upd_ne hne]; exact hd', ?_⟩
          have := q p' _ ex2 rs2 a vs (by rw [upd_ne hne.symm]; exact ha) (rv.mono0 e0)
          have sw : upd (upd H' a (.lst vs)) d (.dK us) = upd (upd H' d (.dK us)) a (.lst vs) := by
            funext b; unfold upd
            by_cases h1 : b = d
            · by_cases h2 : b = a
              · exact absurd (h1.symm.trans h2) hne
              · simp [h1, hne]
            · simp [h1]
          rw [sw]; exact this
        · exact q.elim
  · exact q.elim
theorem dk_lock {m : MD} (h : DDk X W e m) : DDk X W e (mLock mo m) := PE.imp (pe_lock h) fun t H Q ⟨p, r, s, he, hs, q⟩ => by
  unfold mLock at q
  split at q
  · rename_i n kvs hl
    have hk := lockAt_dct hl
    obtain ⟨d, o, q1, q2, q3⟩ := hs.mut hk
    cases q3 with
    | dct rf =>
      rename_i us
      refine ⟨d, _, q2, trivial, fun od => ?_⟩
      obtain ⟨rs1, ex1⟩ := hs.lock (od := od) q1 q2 rf
      refine ⟨p, r, _, he.mono ex1, rs1, ?_⟩
      cases hq : m r (s.set n (.lok kvs)) with
      | exc _ _ => simp only [hq, unlock] at q; exact q.elim
      | bad => simp only [hq, unlock] at q; exact q.elim
      | ok z s2 =>
        simp only [hq, unlock] at q
        split at q
        · rename_i kvs2 hk2
          intro p' H' ex rs a vs ha rv
          obtain ⟨rs2, ex2, e0, hd'⟩ := rs.free ex q1 q2 hk2
          have hne : d ≠ a := ne_of_none hd' ha
          refine ⟨by rw [upd_ne hne]; exact hd', ?_⟩
          have := q p' _ ex2 rs2 a vs (by rw [upd_ne hne.symm]; exact ha) (rv.mono0 e0)
          have sw : upd (upd H' a (.dK vs)) d (.dK us) = upd (upd H' d (.dK us)) a (.dK vs) := by
            funext b; unfold upd
            by_cases h1 : b = d
            · by_cases h2 : b = a
              · exact absurd (h1.symm.trans h2) hne
              · simp [h1, hne]
            · simp [h1]
          rw [sw]; exact this
        · exact q.elim
  · exact q.elim
/-- the keys of a locked dict -/
def mKeys (m : ME) : MI := fun r s => (m r s).bind fun d s1 => match d with
  | .loc n => (match s1[n]? with
    | some (.lok kvs) => .ok (kvs.map fun kv => keyV kv.1, [(n, .lok kvs)]) s1
    | _ => .bad)
  | _ => .bad
theorem str_keys {K : PySem.W.Frag} {p1 : List Addr} {H1 : Hp} {d : Addr} {o : Obj} {kvs : List (Key × D)} {us : List (Key × V)} {gs : List (Nat × Ob)} (hd : H1 d = some (.frz o (.dK us))) (r : RF K p1 H1 kvs us) : Str8 K (Itk d o us) p1 H1 (kvs.map fun kv => keyV kv.1) gs := fun p H s ex rs g => by
  have hd2 := ex.fz _ _ _ hd
  have hk : ∀ {l : List (Key × D)} {l2 : List (Key × V)}, RF K p1 H1 l l2 → l.map (·.1) = l2.map (·.1) := fun {l l2} r => by
    induction r with
    | nil => rfl
    | cons q _ ih => simp [q.1, ih]
  have e := hk r
  refine ⟨fun i x hx => ?_, ⟨hd2, by rw [← r.length]; simp⟩⟩
  simp only [List.getElem?_map, Option.map_eq_some_iff] at hx
  obtain ⟨kv, h1, rfl⟩ := hx
  have hi : i < us.length := by rw [← r.length]; exact (List.getElem?_eq_some_iff.mp h1).1
  refine ⟨⟨hd2, hi⟩, fun y H' ⟨e1, k, v, h2, e2⟩ => ?_⟩
  subst e1 e2
  have : kv.1 = k := by
    have a1 : (kvs.map (·.1))[i]? = some kv.1 := by simp [h1]
    have a2 : (us.map (·.1))[i]? = some k := by simp [h2]
    rw [e, a2] at a1; exact (Option.some.inj a1).symm
  subst this
  exact ⟨.refl, rs, keyV_rd _⟩
theorem di_keys {tg : Expr} (h : DE X W e m) : DI X W tg e (mKeys m) := PI.imp (pi_keys h) fun t H Q ⟨p, r, s, he, hs, q⟩ => by
  refine tE.stepK he hs q fun p1 H1 d v s1 e1 r1 he1 rd q1 => ?_
  split at q1
  · split at q1
    · rename_i kvs hn
      obtain ⟨a, o, us, rfl, h1, h2, h3⟩ := lok_rd r1 rd hn
      exact ⟨a, o, rfl, .inl ⟨us, h1, q1 p1 H1 .refl r1 _ (str_keys h1 h2)⟩⟩
    · exact q1.elim
  · exact q1.elim
end

/-! ### o[i] = v -/
def gSet : D → D → D → Sto → Option Sto
  | .loc n, i, v, s => match s[n]? with
    | some (.lst ds) => (match i with
      | .int k => (ixN ds.length k).map fun j => s.set n (.lst (ds.set j v))
      | _ => none)
    | some (.dct kvs) => (keyD i).bind fun k => if kvs.length < sizeLine then some (s.set n (.dct (dPut kvs k v))) else none
    | _ => none
  | _, _, _, _ => none
def mSetIx (mv mo mi : ME) : MS := fun r s => match mv r s with
  | .ok v s1 => (match mo r s1 with
    | .ok o s2 => (match mi r s2 with
      | .ok i s3 => (match gSet o i v s3 with
        | some s4 => .nx r s4
        | none => .bad)
      | .exc e s3 => .exc e r s3
      | .bad => .bad)
    | .exc e s2 => .exc e r s2
    | .bad => .bad)
  | .exc e s1 => .exc e r s1
  | .bad => .bad
section
variable {X : Cx} {W : WX} {pos pos' : Pos} {o i e : Expr} {mv mo mi : ME}
theorem PSet.or {t t' : TSet} (h : PSet X t) (h' : PSet X t') : PSet X (fun o i v H Q => t o i v H Q ∨ t' o i v H Q) := fun pins s σ H o i v ov iv u Q I ro ri rv q =>
  q.elim (fun z => h pins s σ H o i v ov iv u Q I ro ri rv z) fun z => h' pins s σ H o i v ov iv u Q I ro ri rv z
theorem set_dict (hu : X.A.units + 1 < cLine) : PSet X (fun o i v H Q => ∃ a H4, o = .ref a ∧ DPut H a i v H4 ∧ Q H4) := by
  intro pins s σ H o i v ov iv u Q I ro ri rv h
  obtain ⟨a, H4, rfl, g, q⟩ := h
  obtain rfl : ov = Value.ref a := ro
  exact d_setItem hu I g ri rv fun s4 I4 => ⟨H4, I4, q⟩
theorem gSet_rd {K : PySem.W.Frag} {p : List Addr} {H : Hp} {s s4 : Sto} {o i v : D} {ov iv vv : V} (hs : RS K p s H) (ro : RD K p H o ov) (ri : RD K p H i iv) (rv : RD K p H v vv) (h : gSet o i v s = some s4) :
    ∃ a H4, Ex p H p H4 ∧ RS K p s4 H4 ∧ ((∃ xs k j, ov = .ref a ∧ iv = .int k ∧ H a = some (.lst xs) ∧ ixN xs.length k = some j ∧ H4 = upd H a (.lst (xs.set j vv))) ∨ (ov = .ref a ∧ DPut H a iv vv H4)) := by
  cases o <;> simp only [gSet] at h <;> try (cases h; done)
  rename_i n
  split at h
  · rename_i ds hn
    obtain ⟨a, us, rfl, h1, h2, h3⟩ := lst_rd hs ro hn
    cases ri <;> simp only at h <;> try (cases h; done)
    simp only [Option.map_eq_some_iff] at h
    obtain ⟨j, hj, rfl⟩ := h
    have ex : Ex p H p (upd H a (.lst (us.set j vv))) := ex_upd h3 h1 trivial
    exact ⟨a, _, ex, hs.put h3 h1 trivial (.lst ((h2.set j rv).mono ex)), .inl ⟨us, _, j, rfl, rfl, h1, by rw [← h2.length]; exact hj, rfl⟩⟩
  · rename_i kvs hn
    obtain ⟨a, us, rfl, h1, h2, h3⟩ := dct_rd hs ro hn
    simp only [Option.bind_eq_some_iff] at h
    obtain ⟨k, hk, h⟩ := h
    split at h
    · rename_i hl
      cases h
      have ex : Ex p H p (upd H a (.dK (putK us k vv))) := ex_upd h3 h1 trivial
      exact ⟨a, _, ex, hs.put h3 h1 trivial (.dct ((dPut_rd rv h2).mono ex)), .inr ⟨rfl, .inl ⟨us, k, h1, keyD_rd ri hk, by rw [← h2.length]; exact hl, rfl⟩⟩⟩
    · cases h
  · cases h
theorem ds_setIx (hu : X.A.units + 1 < cLine) (hv : DE X W e mv) (ho : DE X W o mo) (hi : DE X W i mi)
    (ha : ∀ v, assign (.Subscript o i pos') X.env v = (do
      let ov ← holding [v] (eval o X.env)
      let iv ← holding [v, ov] (eval i X.env)
      standAt pos'
      holding [v, ov, iv] (setItem ov iv v)
      release [v, ov, iv] []) := by intro _; rfl)
    (hs : swapsWithSole [.Subscript o i pos'] e pos.line X.env = pure false := by rfl) (hw : swappedStores [.Subscript o i pos'] e X.env = pure none := by rfl)
    (h1 : (assignEach [.Subscript o i pos'] X.env).map (·.2) = [assign (.Subscript o i pos') X.env] := by rfl) : DS X W (.Assign [.Subscript o i pos'] e pos) (mSetIx mv mo mi) :=
  PS.imp (ps_asg hv (pg_sub ho hi (PSet.or set_list (set_dict hu)) ha) hs hw h1) fun Z t H ⟨p, r, s, he, hs, q⟩ => by
    refine tE.stepS (f := fun v s1 => match mo r s1 with
      | .ok o s2 => (match mi r s2 with
        | .ok i s3 => (match gSet o i v s3 with
          | some s4 => .nx r s4
          | none => .bad)
        | .exc e s3 => .exc e r s3
        | .bad => .bad)
      | .exc e s2 => .exc e r s2
      | .bad => .bad) he hs rfl q fun p1 H1 d v s1 e1 r1 he1 rd q1 => ?_
    refine tE.stepS (f := fun o s2 => match mi r s2 with
      | .ok i s3 => (match gSet o i d s3 with
        | some s4 => .nx r s4
        | none => .bad)
      | .exc e s3 => .exc e r s3
      | .bad => .bad) he1 r1 rfl q1 fun p2 H2 z w s2 e2 r2 he2 rd2 q2 => ?_
    refine tE.stepS (f := fun i s3 => match gSet z i d s3 with
      | some s4 => .nx r s4
      | none => .bad) he2 r2 rfl q2 fun p3 H3 y x s3 e3 r3 he3 rd3 q3 => ?_
    split at q3
    · rename_i s4 hg
      obtain ⟨a, H4, ex, rs4, h⟩ := gSet_rd r3 (rd2.mono e3) rd3 ((rd.mono e2).mono e3) hg
      rcases h with ⟨xs, k, j, rfl, rfl, h1, h2, rfl⟩ | ⟨rfl, g⟩
      · exact .inl ⟨a, xs, k, j, rfl, rfl, h1, h2, q3 p3 _ t ex rs4 (he3.mono ex)⟩
      · exact .inr ⟨a, H4, rfl, g, q3 p3 _ t ex rs4 (he3.mono ex)⟩
    · exact q3.elim
end
end DL
end
/-! ### DL9 -/
section
set_option linter.all false
set_option maxRecDepth 100000
/-! DL9: zip and enumerate over lists and tuples, in any mix. -/
namespace DL
open PySem PySem.Spec L2
open PyProof.Rows hiding St
variable [Tbs]

/-- a list (l) or a tuple at a -/
def SqK (K : PySem.W.Frag) (l : Bool) (H : Hp) (a : Addr) (xs : List V) : Prop := match l with
  | true => SqL K H a xs
  | false => SqT K H a xs
def ItK (l : Bool) (h : Heap) (it a : Addr) (i : Nat) : Prop := match l with
  | true => h.IsListIter it a i
  | false => h.IsTupleIter it a i
def SrcK (l : Bool) (h : Heap) (a : Addr) (items : Array Value) : Prop := match l with
  | true => h.IsList a items
  | false => h.IsTuple a items
section
variable {X : Cx} {pins : List (Addr × Obj)} {σ : L2.St} {H : Hp} {s : Shared} {l : Bool} {a it : Addr} {xs ys : List V}
theorem sqk_at (I : Inv X pins σ H s) (h : SqK X.K l H a xs) : ∃ its : List Value, Vals xs its ∧ SrcK l s.heap a its.toArray ∧ xs.length ≤ sizeLine := by
  cases l with
  | true => obtain ⟨its, r, p, z⟩ := I.list h; exact ⟨its, r, p.isList, z⟩
  | false => obtain ⟨its, r, p, z⟩ := I.tuple h; exact ⟨its, r, p, z⟩
theorem sqk_inj (I : Inv X pins σ H s) (h : SqK X.K l H a xs) (h' : SqK X.K l H a ys) : xs = ys := by
  cases l with
  | true => exact I.list_inj h h'
  | false => exact I.tuple_inj h h'
theorem itk_at {h h' : Heap} {i : Nat} (x : ItK l h it a i) (k : ∀ o, h.get? it = some o → h'.get? it = some o) : ItK l h' it a i := by
  cases l with
  | true => exact Heap.IsListIter.at x k
  | false => obtain ⟨o, e, r⟩ := x; exact ⟨o, k o e, r⟩
theorem itk_obj {h : Heap} {i : Nat} (x : ItK l h it a i) : ∃ o, h.get? it = some o ∧ ∀ v, o.data ≠ .cell v := by
  cases l with
  | true => obtain ⟨o, e, _, d⟩ := x; exact ⟨o, e, fun v q => by rw [d] at q; cases q⟩
  | false => obtain ⟨o, e, _, d⟩ := x; exact ⟨o, e, fun v q => by rw [d] at q; cases q⟩
theorem src_lt {h : Heap} {items : Array Value} (x : SrcK l h a items) : a < h.objs.size := by
  cases l with
  | true => obtain ⟨o, e, _⟩ := x; exact Heap.lt_size e
  | false => obtain ⟨o, e, _⟩ := x; exact Heap.lt_size e
theorem draws_k {prog : Program} {w : World} {A : Around} (hh : A.handled = none) (hne : a ≠ it) (items : Array Value) : Draws prog w A it [it, a] items.size (fun i v => items[i]? = some v) (fun i h => ItK l h it a i ∧ SrcK l h a items) := by
  cases l with
  | true => exact Draws.list hh it a hne items
  | false => exact Draws.tuple hh it a hne items
end
/-- pairs of the items -/
def ItzK (K : PySem.W.Frag) (l1 l2 : Bool) (a b : Addr) : It :=
  ⟨fun i H => ∃ (xs ys : List V) (x y : V), SqK K l1 H a xs ∧ SqK K l2 H b ys ∧ xs[i]? = some x ∧ ys[i]? = some y,
    fun i H v H' => ∃ T x y, v = .ref T ∧ H T = none ∧ H' = upd H T (.tup [x, y]) ∧ (∀ xs, SqK K l1 H a xs → xs[i]? = some x) ∧ ∀ ys, SqK K l2 H b ys → ys[i]? = some y,
    fun i H => ∃ xs ys : List V, SqK K l1 H a xs ∧ SqK K l2 H b ys ∧ (i = min xs.length ys.length)⟩
theorem turn_zipK {P : Program} {w : World} {K : PySem.W.Frag} {elts : List Expr} {kk : Nat} {tpos : Pos} {l1 l2 : Bool} {a b z TI TO i1 i2 : Addr} (S : ZipSep2 z TI TO i1 i2 [i1, a] [i2, b]) (n1 : a ≠ i1) (n2 : b ≠ i2) :
    Turn P w K (.Tuple elts kk tpos) (ItzK K l1 l2 a b) [z, TI, TO, i1, i2] z (fun i h => IsZip h z TI TO .none ∧ IsTupOf2 h TI (.ref i1) (.ref i2) ∧ (∃ x y, IsTupOf2 h TO x y) ∧ ItK l1 h i1 a i ∧ ItK l2 h i2 b i) where
  mem := by simp
  obj := fun i h st c hc => by
    obtain ⟨hz, hTI, ⟨x, y, hTO⟩, h1, h2⟩ := st
    have e' : c = z ∨ c = TI ∨ c = TO ∨ c = i1 ∨ c = i2 := by simpa using hc
    rcases e' with q | q | q | q | q
    · rw [q]; exact ⟨_, hz, fun v q => nomatch q⟩
    · rw [q]; exact ⟨_, hTI, fun v q => nomatch q⟩
    · rw [q]; exact ⟨_, hTO, fun v q => nomatch q⟩
    · rw [q]; exact itk_obj h1
    · rw [q]; exact itk_obj h2
  keep := fun i h h' st k => by
    obtain ⟨hz, hTI, ⟨x, y, hTO⟩, h1, h2⟩ := st
    exact ⟨k z (by simp) _ hz, k TI (by simp) _ hTI, ⟨x, y, k TO (by simp) _ hTO⟩, itk_at h1 fun o q => k i1 (by simp) o q, itk_at h2 fun o q => k i2 (by simp) o q⟩
  item := by
    intro X hP hw hK hc i pins s σ H E I hf st hg
    subst hP hw hK
    obtain ⟨hz, hTI, hTO, h1, h2⟩ := st
    obtain ⟨xs, ys, x, y, hqx, hqy, hx, hy⟩ := hg
    obtain ⟨its, rv, p, _⟩ := sqk_at I hqx
    obtain ⟨its2, rv2, p2, _⟩ := sqk_at I hqy
    obtain ⟨u, hu, ru⟩ := rv.get hx
    obtain ⟨u2, hu2, ru2⟩ := rv2.get hy
    have hd := I.ok.hd hc
    have Wk := WalksT.zipD2 (prog := X.prog) (w := X.w) (A := X.A) S (draws_k (l := l1) (A := X.A.in1) hd n1 its.toArray) (draws_k (l := l2) (A := X.A.in1) hd n2 its2.toArray)
    have lx := (List.getElem?_eq_some_iff.mp hu).1
    have ly := (List.getElem?_eq_some_iff.mp hu2).1
    refine Wk.item i s _ _ (by simp; omega) ⟨hz, hTI, hTO, ⟨h1, p⟩, ⟨h2, p2⟩⟩ fun T vals h' tk hv hT hTt hmid hk => ?_
    obtain ⟨w1, w2, hw1, hw2, rfl⟩ := hv
    have e1 : w1 = u := by simpa [hu] using hw1.symm
    have e2 : w2 = u2 := by simpa [hu2] using hw2.symm
    subst e1 e2
    refine ⟨_, rfl, Wk.go elts kk tpos i T { s with heap := h', toks := tk } _ _ hmid fun h'' hst hk2 => ?_⟩
    have hTw := Wk.apart i T h' hmid
    have new : ObjOk X.prog X.w (upd H T (.tup [x, y])) h'' T (.tup [x, y]) := by
      obtain ⟨o, ho, hcl, n, hdt⟩ := hTt
      exact ⟨by show 2 ≤ sizeLine; decide, [w1, w2], .cons ru (.cons ru2 .nil), ⟨o, hk2 T o hTw ho, hcl, n, hdt⟩⟩
    have I1 : Inv X pins σ (upd H T (.tup [x, y])) { s with heap := h'', toks := tk } :=
      I.turnedNew (t' := tk) (ch := [z, TI, TO, i1, i2]) (fun c o hb q => by
        have hc' : c ∉ [z, TO, i1, i2] := fun m => hb (by
          have : c = z ∨ c = TO ∨ c = i1 ∨ c = i2 := by simpa using m
          rcases this with q | q | q | q <;> simp [q])
        exact hk2 c o hc' (hk c o hc' q)) hf hT new
    obtain ⟨g1, g2, g3, g4, g5⟩ := hst
    refine ⟨.ref T, _, I1, rfl, ⟨T, x, y, rfl, I.hok.fresh hT, rfl, fun l hl => by rw [sqk_inj I hl hqx]; exact hx, fun l hl => by rw [sqk_inj I hl hqy]; exact hy⟩, ⟨g1, g2, g3, g4.1, g5.1⟩, fun c hcm => ?_⟩
    have hlt : c < s.heap.objs.size := by
      have e' : c = z ∨ c = TI ∨ c = TO ∨ c = i1 ∨ c = i2 := by simpa using hcm
      rcases e' with q | q | q | q | q
      · rw [q]; exact Heap.lt_size hz
      · rw [q]; exact Heap.lt_size hTI
      · rw [q]; obtain ⟨_, _, e⟩ := hTO; exact Heap.lt_size e
      · rw [q]; obtain ⟨_, e1, _⟩ := itk_obj h1; exact Heap.lt_size e1
      · rw [q]; obtain ⟨_, e2, _⟩ := itk_obj h2; exact Heap.lt_size e2
    rw [upd_ne (Nat.ne_of_lt (Nat.lt_of_lt_of_le hlt hT))]
    exact (hf c hcm).1
  done := by
    intro X hP hw hK hc i pins s σ H E I hf st hg
    subst hP hw hK
    obtain ⟨hz, hTI, hTO, h1, h2⟩ := st
    obtain ⟨xs, ys, hqx, hqy, hend⟩ := hg
    obtain ⟨its, rv, p, _⟩ := sqk_at I hqx
    obtain ⟨its2, rv2, p2, _⟩ := sqk_at I hqy
    have l1' := rv.length
    have l2' := rv2.length
    have hd := I.ok.hd hc
    have Wk := WalksT.zipD2 (prog := X.prog) (w := X.w) (A := X.A) S (draws_k (l := l1) (A := X.A.in1) hd n1 its.toArray) (draws_k (l := l2) (A := X.A.in1) hd n2 its2.toArray)
    have e : i = min its.toArray.size its2.toArray.size := by simp [hend, l1', l2']
    subst e
    exact Wk.done s _ _ ⟨hz, hTI, hTO, ⟨h1, p⟩, ⟨h2, p2⟩⟩ fun h' tk hk => ⟨rfl, I.turnedL (t' := tk) (ch := [z, TI, TO, i1, i2]) (fun c o hb q => hk c o (fun m => hb (by
      have : c = z ∨ c = TO ∨ c = i1 ∨ c = i2 := by simpa using m
      rcases this with q | q | q | q <;> simp [q])) q) hf⟩
  self := fun A i s Q E st h => wpAny_pyIter_zip st.1 h
theorem begins_k (l : Bool) (a : Addr) (items : Array Value) : ∃ o, Begins (.ref a) o (fun h => SrcK l h a items) ∧ (∀ h it, h.get? it = some o → ItK l h it a 0) := by
  cases l with
  | true => exact ⟨_, begins_list a items, fun h it e => ⟨_, e, rfl, rfl⟩⟩
  | false => exact ⟨_, begins_tuple a items, fun h it e => ⟨_, e, rfl, rfl⟩⟩
def iZipK (K : PySem.W.Frag) (ta : TA) : TI := fun σ H R => ta σ H fun vs H1 => ∃ l1 l2 a b xs ys, vs = [.ref a, .ref b] ∧ SqK K l1 H1 a xs ∧ SqK K l2 H1 b ys ∧ R (ItzK K l1 l2 a b) H1
theorem pi_zipK {X : Cx} {e e2 : Expr} {ta : TA} {p pos tpos : Pos} {elts : List Expr} {kk : Nat} (hg : Gl X "zip") (hm : X.mg "zip" = none) (ha : PA X [e, e2] ta)
    (hs : starEach [e, e2] X.env = (false, eval e X.env) :: starEach [e2] X.env := by rfl) (hpl : (backTo pos (starEach [e2] X.env)).any (·.1) = false := by rfl) :
    PI X (.Tuple elts kk tpos) (.Call (.Name "zip" p) [e, e2] [] pos) (iZipK X.K ta) := by
  refine ⟨fun pins s σ H R I h => ?_⟩
  refine Call_ (ld_blt I hg hm PyProof.Rows.boot_zip (PyProof.Rows.callWith_type1 (thn (ha.run pos pins s σ H _ I h) fun us s1 ⟨vs, H1, I1, r1, q1⟩ => ?_) hs hpl))
  obtain ⟨l1, l2, a, b, xs, ys, ex, hqx, hqy, q⟩ := q1
  subst ex
  cases r1 with
  | cons r rr =>
    cases rr with
    | cons r' rr =>
      cases rr
      cases r
      cases r'
      obtain ⟨its, rv, p1, _⟩ := sqk_at I1 hqx
      obtain ⟨its2, rv2, p2, _⟩ := sqk_at I1 hqy
      obtain ⟨o1, B1, k1⟩ := begins_k l1 a its.toArray
      obtain ⟨o2, B2, k2⟩ := begins_k l2 b its2.toArray
      have la := src_lt p1
      have lb := src_lt p2
      refine zip_begins2 B1 B2 p1 p2 fun h' hz hTI hTO h1 h2 hsz hk => wpAny_pyIter_zip hz ?_
      have I2 : Inv X pins σ H1 { s1 with heap := h' } := I1.kept (t' := s1.toks) hk
      refine ⟨s1.heap.objs.size + 4, [s1.heap.objs.size + 4, s1.heap.objs.size + 2, s1.heap.objs.size + 3, s1.heap.objs.size, s1.heap.objs.size + 1], _, _, H1, rfl, I2,
        turn_zipK (l1 := l1) (l2 := l2) (zip_sep2 (fp1 := [a]) (fp2 := [b]) (by simpa using la) (by simpa using lb)) (Nat.ne_of_lt la) (Nat.ne_of_lt (Nat.lt_succ_of_lt lb)), ⟨hz, hTI, ⟨_, _, hTO⟩, k1 _ _ h1, k2 _ _ h2⟩, fun c hcm => ?_, q⟩
      have e' : c = s1.heap.objs.size + 4 ∨ c = s1.heap.objs.size + 2 ∨ c = s1.heap.objs.size + 3 ∨ c = s1.heap.objs.size ∨ c = s1.heap.objs.size + 1 := by simpa using hcm
      have hle : s1.heap.objs.size ≤ c := by
        rcases e' with z | z | z | z | z
        · rw [z]; exact Nat.le_add_right _ _
        · rw [z]; exact Nat.le_add_right _ _
        · rw [z]; exact Nat.le_add_right _ _
        · rw [z]; exact Nat.le_refl _
        · rw [z]; exact Nat.le_add_right _ _
      exact I1.fpOk hle (I1.hok.fresh hle)
/-! ### enumerate -/
end DL
end
/-! ### DL10 -/
section
set_option linter.all false
set_option maxRecDepth 100000
/-! DL10: zip, enumerate over data; methods of lists and dicts; fresh lists and dicts by calls; a def by its body. -/
namespace DL
open PySem PySem.Spec L2
open PyProof.Rows hiding St
variable [Tbs]

section
open Builtin
end
/-! ### over data -/
/-- the items of a list or tuple, with the guard -/
def srcD (s : Sto) : D → Option (List D × List (Nat × Ob))
  | .tup ds => some (ds, [])
  | .loc n => match s[n]? with
    | some (.lst ds) => some (ds, [(n, .lst ds)])
    | _ => none
  | _ => none
def mZip (m n : ME) : MI := fun r s => (m r s).bind fun d s1 => (n r s1).bind fun e s2 => match srcD s2 d, srcD s2 e with
  | some (xs, g1), some (ys, g2) => .ok (List.zipWith (fun x y => .tup [x, y]) xs ys, g1 ++ g2) s2
  | _, _ => .bad
def numbered (k : Nat) : List D → List D
  | [] => []
  | d :: ds => .tup [.int (k : Int), d] :: numbered (k + 1) ds
def mEnum (m : ME) : MI := fun r s => (m r s).bind fun d s1 => match srcD s1 d with
  | some (xs, g1) => .ok (numbered 0 xs, g1) s1
  | none => .bad
section
variable {K : PySem.W.Frag} {p1 : List Addr} {H1 : Hp} {s1 : Sto}
/-- as long as the guards stand the source stands -/
theorem src_stays (rs1 : RS K p1 s1 H1) {d : D} {v : V} {ds : List D} {gs : List (Nat × Ob)} (rd : RD K p1 H1 d v) (h : srcD s1 d = some (ds, gs)) :
    ∃ (l : Bool) (a : Addr), v = .ref a ∧ ∀ p H s, Ex p1 H1 p H → RS K p s H → guard gs s = true → ∃ us, SqK K l H a us ∧ RDs K p H ds us := by
  cases rd with
  | tup h1 r1 =>
    simp only [srcD] at h
    cases h
    exact ⟨false, _, rfl, fun p H s ex _ _ => ⟨_, ex.sqt h1, r1.mono ex⟩⟩
  | loc h1 =>
    simp only [srcD] at h
    split at h
    · rename_i ds hn
      cases h
      refine ⟨true, _, rfl, fun p H s ex rs g => ?_⟩
      have e := guard_iff.mp g _ (List.mem_cons_self)
      obtain ⟨a, o, q1, q2, q3⟩ := rs.mut e
      rw [ex.get h1] at q1; cases q1
      cases q3 with
      | lst r => exact ⟨_, SqL.of q2, r⟩
    · cases h
  | non => simp [srcD] at h
  | bl => simp [srcD] at h
  | int => simp [srcD] at h
  | str => simp [srcD] at h
  | con => simp [srcD] at h
theorem guard_app {g1 g2 : List (Nat × Ob)} {s : Sto} (h : guard (g1 ++ g2) s = true) : guard g1 s = true ∧ guard g2 s = true := by
  rw [guard_iff] at h
  exact ⟨guard_iff.mpr fun q hq => h q (List.mem_append_left _ hq), guard_iff.mpr fun q hq => h q (List.mem_append_right _ hq)⟩
theorem src_now {s2 : Sto} {d : D} {ds : List D} {gs : List (Nat × Ob)} (h : srcD s2 d = some (ds, gs)) : guard gs s2 = true := by
  rw [guard_iff]
  intro q hq
  cases d <;> simp only [srcD] at h <;> try (cases h; done)
  · cases h; cases hq
  · split at h
    · rename_i e3
      cases h
      rw [List.mem_singleton.mp hq]
      exact e3
    · cases h
end
section
variable {X : Cx} {W : WX} {pos : Pos} {m n : ME}
theorem pair_rd {K : PySem.W.Frag} {p : List Addr} {H : Hp} {s : Sto} {x y : D} {v w : V} {T : Addr} (rs : RS K p s H) (rx : RD K p H x v) (ry : RD K p H y w) (hT : H T = none) :
    Ex p H p (upd H T (.tup [v, w])) ∧ RS K p s (upd H T (.tup [v, w])) ∧ RD K p (upd H T (.tup [v, w])) (.tup [x, y]) (.ref T) := by
  have ex : Ex p H p (upd H T (.tup [v, w])) := ex_new0 hT
  exact ⟨ex, rs.beside hT, .tup (SqT.of upd_same) (.cons (rx.mono ex) (.cons (ry.mono ex) .nil))⟩
theorem di_zip {e e2 : Expr} {p tpos : Pos} {elts : List Expr} {kk : Nat} (hg : Gl X "zip") (hm : X.mg "zip" = none) (ha : DE X W e m) (hb : DE X W e2 n)
    (hs : starEach [e, e2] X.env = (false, eval e X.env) :: starEach [e2] X.env := by rfl) (hs2 : starEach [e2] X.env = (false, eval e2 X.env) :: starEach [] X.env := by rfl) (hpl : (backTo pos (starEach [e2] X.env)).any (·.1) = false := by rfl) :
    DI X W (.Tuple elts kk tpos) (.Call (.Name "zip" p) [e, e2] [] pos) (mZip m n) := PI.imp (pi_zipK hg hm (pa_cons ha (pa_cons hb pa_nil hs2) hs) hs hpl) fun t H Q ⟨p, r, s, he, hs, q⟩ => by
  refine tE.stepK he hs q fun p1 H1 d v s1 e1 r1 he1 rd q1 => ?_
  refine tE.stepK he1 r1 q1 fun p2 H2 f w s2 e2 r2 he2 rd2 q2 => ?_
  split at q2
  · rename_i xs g1 ys g2 h1 h2
    obtain ⟨l1, a, rfl, k1⟩ := src_stays r2 (rd.mono e2) h1
    obtain ⟨l2, b, rfl, k2⟩ := src_stays r2 rd2 h2
    have gq1 := src_now h1
    have gq2 := src_now h2
    obtain ⟨us, su, ru⟩ := k1 p2 H2 s2 .refl r2 gq1
    obtain ⟨ws, sw, rw2⟩ := k2 p2 H2 s2 .refl r2 gq2
    refine ⟨l1, l2, a, b, us, ws, rfl, su, sw, q2 p2 H2 .refl r2 _ ?_⟩
    intro p3 H3 s3 ex rs g
    obtain ⟨ga, gb⟩ := guard_app g
    obtain ⟨us3, su3, ru3⟩ := k1 p3 H3 s3 ex rs ga
    obtain ⟨ws3, sw3, rw3⟩ := k2 p3 H3 s3 ex rs gb
    refine ⟨fun i d hd => ?_, us3, ws3, su3, sw3, by rw [List.length_zipWith, ru3.length, rw3.length]⟩
    · simp only [List.getElem?_zipWith] at hd
      cases hx : xs[i]? with
      | none => simp [hx] at hd
      | some x =>
        cases hy : ys[i]? with
        | none => simp [hx, hy] at hd
        | some y =>
          simp only [hx, hy, Option.some.injEq] at hd
          subst hd
          obtain ⟨v, hv, rv⟩ := ru3.get hx
          obtain ⟨w, hw, rw4⟩ := rw3.get hy
          refine ⟨⟨us3, ws3, v, w, su3, sw3, hv, hw⟩, fun z H' ⟨T, v', w', e3, hT, e4, c1, c2⟩ => ?_⟩
          have := c1 us3 su3
          rw [hv] at this; cases this
          have := c2 ws3 sw3
          rw [hw] at this; cases this
          subst e3 e4
          exact pair_rd rs rv rw4 hT
  · exact q2.elim
end
end DL
end
/-! ### DL11 -/
section
set_option linter.all false
set_option maxRecDepth 100000
/-! DL11: methods of lists and dicts; fresh lists and dicts by calls; a def by its body; what is forgotten behind a call. -/
namespace DL
open PySem PySem.Spec L2
open PyProof.Rows hiding St
variable [Tbs]

/-! ### methods of lists -/
abbrev GM := D → List D → Sto → Option (D × Sto)
def MtD (X : Cx) (id : String) (g : GM) : Prop := MtR X id (fun x vs H Q => ∃ p s d ds z s', RS X.K p s H ∧ RD X.K p H d x ∧ RDs X.K p H ds vs ∧ g d ds s = some (z, s') ∧ Fin X.K p H z s' Q)
theorem MtR.imp {X : Cx} {id : String} {r r' : V → List V → Hp → VK → Prop} (h : MtR X id r) (g : ∀ x vs H Q, r' x vs H Q → r x vs H Q) : MtR X id r' := fun pins s σ H x xs v us Q I rx rv q => h pins s σ H x xs v us Q I rx rv (g x xs H Q q)
def mMB (g : GM) (mo : ME) (ma : MA) : ME := fun r s => (mo r s).bind fun d s1 => match itL s1 d with
  | some _ => (ma r s1).bind fun ds s2 => R.of (g d ds s2)
  | none => .bad
def gAppend : GM
  | .loc n, [y], s => match s[n]? with
    | some (.lst xs) => if xs.length < sizeLine then some (.non, s.set n (.lst (xs ++ [y]))) else none
    | _ => none
  | _, _, _ => none
def gPop : GM
  | .loc n, [], s => match s[n]? with
    | some (.lst xs) => (xs[xs.length - 1]?).map fun y => (y, s.set n (.lst xs.dropLast))
    | _ => none
  | .loc n, [.int i], s => match s[n]? with
    | some (.lst xs) => if -(2 ^ 63) ≤ i ∧ i < 2 ^ 63 then (seqIndex? i xs.length).bind fun k => (xs[k]?).map fun y => (y, s.set n (.lst (xs.eraseIdx k))) else none
    | _ => none
  | _, _, _ => none
section
variable {X : Cx} {W : WX} {o e : Expr} {es : List Expr} {mo : ME} {ma : MA} {name : Str} {id : String} {g : GM} {apos cpos : Pos}
theorem de_bm (slot : Slot "list" name id) (hty : typeOf (.builtin id) = pure (.type "method_descriptor")) (hm : MtD X id g) (ho : DE X W o mo) (ha : DA X W (e :: es) ma)
    (hbase : attributeBase o name X.env (eval o X.env) = eval o X.env := by rfl)
    (hfew : ((backTo cpos (starEach (e :: es) X.env)).all (fun x => !x.1) && (backToKw cpos (keywordEach [] X.env)).all (fun x => x.1.isSome)
      && decide ((e :: es).length + ([] : List Keyword).length + (if ([] : List Keyword).isEmpty then 0 else 1) < 30)) = true := by rfl)
    (hline : (apos.endLine == cpos.line) = true := by rfl) (hs : starEach (e :: es) X.env = (false, eval e X.env) :: starEach es X.env := by rfl) (hplain : (backTo cpos (starEach es X.env)).any (·.1) = false := by rfl) :
    DE X W (.Call (.Attribute o name apos) (e :: es) [] cpos) (mMB g mo ma) := PE.imp (pe_bm PySem.F.plainAttrs_list slot hty hm ho ha hbase hfew hline hs hplain) fun t H Q ⟨p, r, s, he, hs, q⟩ => by
  refine tE.stepK he hs q fun p1 H1 d v s1 e1 r1 he1 rd q1 => ?_
  split at q1
  · rename_i xs hx
    obtain ⟨a, us, rfl, h1, h2⟩ := itL_rd r1 rd hx
    refine ⟨.inl ⟨rfl, us, SqL.of h1⟩, p1, r, s1, he1, r1, (pR.bind q1).imp fun p2 H2 ds s2 e2 r2 q2 vs rds => ?_⟩
    obtain ⟨z, s', hz, hf⟩ := pR.fin q2
    exact ⟨p2, s2, d, ds, z, s', r2, rd.mono e2, rds, hz, hf⟩
  · exact q1.elim
theorem md_append : MtD X "list.append" gAppend := MtR.imp mt_append fun x vs H Q ⟨p, s, d, ds, z, s', hs, rd, rds, hg, hf⟩ => by
  unfold gAppend at hg
  split at hg
  · split at hg
    · rename_i n y xs hn
      split at hg
      · rename_i hl
        cases hg
        obtain ⟨a, us, rfl, h1, h2, h3⟩ := lst_rd hs rd hn
        obtain ⟨v, rfl, rv⟩ := one_rd rds
        have ex : Ex p H p (upd H a (.lst (us ++ [v]))) := ex_upd h3 h1 trivial
        exact ⟨a, us, v, rfl, rfl, h1, by rw [← h2.length]; exact hl, hf p _ .non ex (hs.put h3 h1 trivial (.lst ((h2.append (.cons rv .nil)).mono ex))) .non⟩
      · cases hg
    · cases hg
  · cases hg
theorem RDs.dropLast {K : PySem.W.Frag} {p : List Addr} {H : Hp} {ds : List D} {vs : List V} (r : RDs K p H ds vs) : RDs K p H ds.dropLast vs.dropLast := by
  rw [List.dropLast_eq_take, List.dropLast_eq_take, r.length]; exact r.take _
theorem RDs.eraseIdx {K : PySem.W.Frag} {p : List Addr} {H : Hp} : ∀ {ds : List D} {vs : List V} (k : Nat), RDs K p H ds vs → RDs K p H (ds.eraseIdx k) (vs.eraseIdx k)
  | _, _, _, .nil => .nil
  | _, _, 0, .cons _ r => r
  | _, _, k + 1, .cons h r => .cons h (RDs.eraseIdx k r)
theorem md_pop : MtD X "list.pop" gPop := fun pins s σ H x xs v us Q I rx rv h => by
  obtain ⟨p, st, d, ds, z, s', hs, rd, rds, hg, hf⟩ := h
  unfold gPop at hg
  split at hg
  · split at hg
    · rename_i n xs hn
      simp only [Option.map_eq_some_iff] at hg
      obtain ⟨y, hy, hz⟩ := hg
      cases hz
      obtain ⟨a, ws, rfl, h1, h2, h3⟩ := lst_rd hs rd hn
      cases rds
      obtain ⟨w, hw, rw1⟩ := h2.get hy
      have ex : Ex p H p (upd H a (.lst ws.dropLast)) := ex_upd h3 h1 trivial
      exact mt_pop pins s σ H _ _ v us Q I rx rv ⟨a, ws, w, rfl, rfl, h1, by rw [← h2.length]; exact hw, hf p _ w ex (hs.put h3 h1 trivial (.lst (h2.dropLast.mono ex))) (rw1.mono ex)⟩
    · cases hg
  · split at hg
    · rename_i n i xs hn
      split at hg
      · rename_i hi
        simp only [Option.bind_eq_some_iff, Option.map_eq_some_iff] at hg
        obtain ⟨k, hk, y, hy, hz⟩ := hg
        cases hz
        obtain ⟨a, ws, rfl, h1, h2, h3⟩ := lst_rd hs rd hn
        obtain ⟨v2, rfl, rv2⟩ := one_rd rds
        cases rv2
        obtain ⟨w, hw, rw1⟩ := h2.get hy
        have ex : Ex p H p (upd H a (.lst (ws.eraseIdx k))) := ex_upd h3 h1 trivial
        exact mt_popAt pins s σ H _ _ v us Q I rx rv ⟨a, ws, _, k, w, rfl, rfl, h1, hi.1, hi.2, by rw [← h2.length]; exact hk, hw, hf p _ w ex (hs.put h3 h1 trivial (.lst ((h2.eraseIdx k).mono ex))) (rw1.mono ex)⟩
      · cases hg
    · cases hg
  · cases hg
/-! ### d.get(k, x) -/
def kvsOf (s : Sto) (n : Nat) : Option (List (Key × D)) := match s[n]? with
  | some (.dct kvs) => some kvs
  | some (.lok kvs) => some kvs
  | _ => none
def mGet2 (mo mk mx : ME) : ME := fun r s => (mo r s).bind fun d s1 => match d with
  | .loc n => (match kvsOf s1 n with
    | some _ => (mk r s1).bind fun k s2 => (mx r s2).bind fun x s3 => (match kvsOf s3 n, keyD k with
      | some kvs, some k => .ok ((dGet kvs k).getD x) s3
      | _, _ => .bad)
    | none => .bad)
  | _ => .bad
theorem kvs_rd {K : PySem.W.Frag} {p : List Addr} {H : Hp} {s : Sto} {n : Nat} {v : V} {kvs : List (Key × D)} (hs : RS K p s H) (r : RD K p H (.loc n) v) (h : kvsOf s n = some kvs) : ∃ a us, v = .ref a ∧ Rd H a (.dK us) ∧ RF K p H kvs us := by
  unfold kvsOf at h
  split at h
  · rename_i kvs' hn
    cases h
    obtain ⟨a, us, e, h1, h2, h3⟩ := dct_rd hs r hn
    exact ⟨a, us, e, .inl h1, h2⟩
  · rename_i kvs' hn
    cases h
    obtain ⟨a, o, us, e, h1, h2, h3⟩ := lok_rd hs r hn
    exact ⟨a, us, e, .inr ⟨o, h1⟩, h2⟩
  · cases h
theorem de_get2 {k x : Expr} {mk mx : ME} (hu : X.A.units + 1 < cLine) (ho : DE X W o mo) (hk : DE X W k mk) (hx : DE X W x mx) (hm : M2 X o "get" apos k x cpos := by exact ⟨rfl, rfl, rfl, rfl⟩) : DE X W (.Call (.Attribute o "get" apos) [k, x] [] cpos) (mGet2 mo mk mx) :=
  PE.imp (pe_dget2 hu ho hk hx hm) fun t H Q ⟨p, r, s, he, hs, q⟩ => by
    refine tE.stepK he hs q fun p1 H1 d v s1 e1 r1 he1 rd q1 => ?_
    split at q1
    · rename_i n
      split at q1
      · rename_i kvs0 hk0
        obtain ⟨a, us, rfl, h1, h2⟩ := kvs_rd r1 rd hk0
        refine ⟨a, rfl, .inl ⟨us, h1⟩, ?_⟩
        refine tE.stepK he1 r1 q1 fun p2 H2 kd kv s2 e2 r2 he2 rd2 q2 => ?_
        refine tE.stepK he2 r2 q2 fun p3 H3 xd xv s3 e3 r3 he3 rd3 q3 => ?_
        split at q3
        · rename_i kvs3 k3 hk3 hkk
          obtain ⟨a', us3, ea, g1, g2⟩ := kvs_rd r3 ((rd.mono e2).mono e3) hk3
          cases ea
          cases hd : dGet kvs3 k3 with
          | none =>
            refine ⟨none, .inl ⟨us3, k3, g1, keyD_rd (rd2.mono e3) hkk, (dGet_none g2 hd).symm⟩, ?_⟩
            rw [hd] at q3
            exact q3 p3 H3 .refl r3 xv rd3
          | some z =>
            obtain ⟨w, hw, rw1⟩ := dGet_rd g2 hd
            refine ⟨some w, .inl ⟨us3, k3, g1, keyD_rd (rd2.mono e3) hkk, hw.symm⟩, ?_⟩
            rw [hd] at q3
            exact q3 p3 H3 .refl r3 w rw1
        · exact q3.elim
      · exact q1.elim
    · exact q1.elim
end

/-! ### calls that make a list -/
abbrev GL := List D → Sto → Option (List D)
def CallFL (X : Cx) (f : Value) (g : GL) : Prop := CallR X f (fun vs H Q => ∃ p s ds us, RS X.K p s H ∧ RDs X.K p H ds vs ∧ g ds s = some us ∧ ∀ a ws, H a = none → RDs X.K p H us ws → Q (.ref a) (upd H a (.lst ws)))
def mCallL (g : GL) (ma : MA) : MA := fun r s => (ma r s).bind fun ds s1 => match g ds s1 with
  | some us => .ok us s1
  | none => .bad
section
variable {X : Cx} {W : WX} {e : Expr} {es : List Expr} {ma : MA} {pos : Pos}
theorem dl_callB {x : Str} {id : String} {g : GL} {p : Pos} (hc : CallFL X (.builtin id) g) (hg : Gl X x) (hm : X.mg x = none) (hv : bootBuiltins x = some (.builtin id)) (ha : DA X W (e :: es) ma) (hn : x ≠ "__name__" := by decide) (hdb : (x == ("__debug__" : Str)) = false := by decide)
    (he : starEach (e :: es) X.env = (false, eval e X.env) :: starEach es X.env := by rfl) (hpl : (backTo pos (starEach es X.env)).any (·.1) = false := by rfl) : DLs X W (.Call (.Name x p) (e :: es) [] pos) (mCallL g ma) :=
  PE.imp (pe_callB hc hg hm hv ha hn hdb he hpl) fun t H Q ⟨p, r, s, he, hs, q⟩ => by
    refine ⟨p, r, s, he, hs, (pR.bind q).imp fun p1 H1 ds s1 e1 r1 q1 vs rds => ?_⟩
    split at q1
    · rename_i us hu
      exact ⟨p1, s1, ds, us, r1, rds, hu, q1 p1 H1 .refl r1⟩
    · exact q1.elim
/-- sorted, of whole numbers -/
def ins1 (x : Int) : List Int → List Int
  | [] => [x]
  | y :: ys => if x ≤ y then x :: y :: ys else y :: ins1 x ys
def isort : List Int → List Int
  | [] => []
  | x :: xs => ins1 x (isort xs)
theorem ins1_perm (x : Int) : ∀ ys : List Int, (ins1 x ys).Perm (x :: ys)
  | [] => .refl _
  | y :: ys => by
    unfold ins1; split
    · exact .refl _
    · exact ((ins1_perm x ys).cons y).trans (.swap x y ys)
theorem isort_perm : ∀ xs : List Int, (isort xs).Perm xs
  | [] => .refl _
  | x :: xs => (ins1_perm x (isort xs)).trans ((isort_perm xs).cons x)
theorem ins1_sorted (x : Int) : ∀ {ys : List Int}, ys.Pairwise (· ≤ ·) → (ins1 x ys).Pairwise (· ≤ ·)
  | [], _ => by simp [ins1]
  | y :: ys, h => by
    unfold ins1; split
    · rename_i hxy
      refine List.pairwise_cons.mpr ⟨fun z hz => ?_, h⟩
      rcases List.mem_cons.mp hz with rfl | hz
      · exact hxy
      · exact Int.le_trans hxy ((List.pairwise_cons.mp h).1 z hz)
    · rename_i hxy
      refine List.pairwise_cons.mpr ⟨fun z hz => ?_, ins1_sorted x (List.pairwise_cons.mp h).2⟩
      have := (ins1_perm x ys).mem_iff.mp hz
      rcases List.mem_cons.mp this with rfl | hz
      · omega
      · exact (List.pairwise_cons.mp h).1 z hz
theorem isort_sorted : ∀ xs : List Int, (isort xs).Pairwise (· ≤ ·)
  | [] => .nil
  | x :: xs => ins1_sorted x (isort_sorted xs)
theorem sorted_same : ∀ {xs ys : List Int}, xs.Perm ys → xs.Pairwise (· ≤ ·) → ys.Pairwise (· ≤ ·) → xs = ys
  | [], ys, h, _, _ => (List.nil_perm.mp h).symm
  | x :: xs, [], h, _, _ => by have := h.length_eq; simp at this
  | x :: xs, y :: ys, h, h1, h2 => by
    have hx : x ∈ y :: ys := h.mem_iff.mp List.mem_cons_self
    have hy : y ∈ x :: xs := h.mem_iff.mpr List.mem_cons_self
    have e : x = y := by
      rcases List.mem_cons.mp hx with e | hx
      · exact e
      · rcases List.mem_cons.mp hy with e | hy
        · exact e.symm
        · exact Int.le_antisymm ((List.pairwise_cons.mp h1).1 y hy) ((List.pairwise_cons.mp h2).1 x hx)
    subst e
    rw [sorted_same ((List.perm_cons x).mp h) (List.pairwise_cons.mp h1).2 (List.pairwise_cons.mp h2).2]
def intKeys : List (Key × D) → Option (List Int)
  | [] => some []
  | (.inl i, _) :: r => (intKeys r).map (i :: ·)
  | (.inr _, _) :: _ => none
def gSorted : GL
  | [d], s => match d with
    | .loc n => (match s[n]? with
      | some (.lst ds) => (intsD ds).map fun ns => (isort ns).map .int
      | some (.dct kvs) => (intKeys kvs).bind fun ns => if ns.length < 64 then some ((isort ns).map .int) else none
      | _ => none)
    | _ => none
  | _, _ => none
theorem intKeys_rd {K : PySem.W.Frag} {p : List Addr} {H : Hp} : ∀ {ds : List (Key × D)} {us : List (Key × V)} {ns : List Int}, RF K p H ds us → intKeys ds = some ns → us.map (·.1) = ns.map Sum.inl
  | _, _, _, .nil, h => by simp only [intKeys] at h; cases h; rfl
  | (.inl i, d) :: ds, (k, v) :: us, ns, .cons q r, h => by
    simp only [intKeys, Option.map_eq_some_iff] at h
    obtain ⟨ms, hm, rfl⟩ := h
    obtain ⟨q1, _⟩ := q
    dsimp only at q1
    simp [← q1, intKeys_rd r hm]
  | (.inr x, d) :: ds, _, _, .cons q r, h => by simp [intKeys] at h
theorem ca_sorted (hc : X.calm = true) : CallFL X (.builtin "sorted") gSorted := CallR.imp (cr_sortedI.or (call_sortedDI hc)) fun vs H Q ⟨p, s, ds, us, hs, rds, hg, hf⟩ => by
  unfold gSorted at hg
  split at hg
  · obtain ⟨v, rfl, rd⟩ := one_rd rds
    split at hg
    · split at hg
      · rename_i n ds hn
        simp only [Option.map_eq_some_iff] at hg
        obtain ⟨ns, h0, rfl⟩ := hg
        cases intsD_eq h0
        obtain ⟨a, ws, rfl, h1, h2, h3⟩ := lst_rd hs rd hn
        cases h2.ints
        refine .inl ⟨a, ns, rfl, SqL.of h1, fun ns' q hp hsr hq => ?_⟩
        have : ns' = isort ns := sorted_same (hp.trans (isort_perm ns).symm) hsr (isort_sorted ns)
        subst this
        exact hf q _ hq (RDs.of_ints _)
      · rename_i n kvs hn
        simp only [Option.bind_eq_some_iff] at hg
        obtain ⟨ns, h0, hg⟩ := hg
        split at hg
        · rename_i hl
          cases hg
          obtain ⟨a, ws, rfl, h1, h2, h3⟩ := dct_rd hs rd hn
          refine .inr ⟨a, ws, ns, rfl, .inl h1, intKeys_rd h2 h0, hl, fun ns' q hp hsr hq => ?_⟩
          have : ns' = isort ns := sorted_same (hp.trans (isort_perm ns).symm) hsr (isort_sorted ns)
          subst this
          exact hf q _ hq (RDs.of_ints _)
        · cases hg
      · cases hg
    · cases hg
  · cases hg
end

/-! ### dicts made -/
def mDictOf (m : ME) : MD := fun r s => (m r s).bind fun d s1 => match d with
  | .loc n => (match kvsOf s1 n with
    | some kvs => .ok kvs s1
    | none => .bad)
  | _ => .bad
section
variable {X : Cx} {W : WX} {e : Expr} {m : ME} {pos p : Pos}
theorem dk_empty : DDk X W (.Dict [] [] pos) (fun _ s => .ok [] s) := PE.imp pe_dnewK fun t H Q ⟨p, r, s, he, hs, q⟩ => fun a ha => q p H .refl hs a [] ha .nil
/-- {k: v, ..} -/
def mEnts : List (ME × ME) → Env → Sto → R (List (D × D))
  | [], _, s => .ok [] s
  | (k, v) :: l, r, s => (k r s).bind fun dk s1 => (v r s1).bind fun dv s2 => (mEnts l r s2).bind fun ps s3 => .ok ((dk, dv) :: ps) s3
def entsOf : List (D × D) → Option (List (Key × D))
  | [] => some []
  | (k, v) :: l => (keyD k).bind fun k => (entsOf l).map fun l => (k, v) :: l
def mDisp (l : List (ME × ME)) : MD := fun r s => (mEnts l r s).bind fun ps s1 => match entsOf ps with
  | some kvs => if kvs.length ≤ 15 then .ok (kvs.foldl (fun acc kv => dPut acc kv.1 kv.2) []) s1 else .bad
  | none => .bad
end

/-! ### a def by its body -/
def mDef (nN np : Nat) (mb : MS) : MF := fun ds s => if ds.length = np then (match mb (ds.map some ++ List.replicate (nN - np) none) s with
  | .nx _ s1 => .ok .non s1
  | .rt d s1 => .ok d s1
  | .exc e _ s1 => .exc e s1
  | _ => .bad) else .bad
theorem re_start {K : PySem.W.Frag} {p : List Addr} {H : Hp} {ds : List D} {vs : List V} (r : RDs K p H ds vs) (N : List Str) : RE K p H (ds.map some ++ List.replicate (N.length - ds.length) none) (L2.start N vs) := by
  refine ⟨by simp [L2.start, r.length], fun i d h => ?_⟩
  by_cases hi : i < ds.length
  · rw [List.getElem?_append_left (by simpa using hi)] at h
    simp only [List.getElem?_map, Option.map_eq_some_iff, Option.some.injEq] at h
    obtain ⟨d', h1, rfl⟩ := h
    obtain ⟨v, h2, h3⟩ := r.get h1
    refine ⟨v, ?_, h3⟩
    unfold L2.start
    rw [List.getElem?_append_left (by rw [List.length_map, ← r.length]; exact hi)]
    simp [h2]
  · rw [List.getElem?_append_right (by simpa using hi)] at h
    simp [List.getElem?_replicate] at h
theorem fn_D {P : Program} {w : World} {K : PySem.W.Frag} {mg : Str → Option Value} {base : Heap} {x qual : Str} {st : Stmt} {f : Addr} {fd : FuncData} {N ps : List Str} {k : Nat} {mb : MS} (F : Fun K x qual st f fd) (S : FnScope N ps (defScope st))
    (hb : ∀ (cdv : Value) (A : Around) (outer : List PySem.Env) (s : Shared) (H : Hp) (E : XK), Room k (A.deeper (envOfC qual (defScope st) s.heap.objs.size f cdv)) →
      DSs (cxOf (L2.CX P w) P w K mg base N qual (defScope st) f cdv A outer s H E) (fun c d _ H => E c d H) (defBody st) mb) : FnD P w K mg base (k + 1) f fd ps (mDef N.length ps.length mb) := by
  refine F.okX S (fun vs H Q E h => ?_) (fun cdv A outer s H vs Q E hr h => ⟨_, hb cdv A outer s H E hr, ?_⟩)
  · obtain ⟨p, s, ds, hl, _, r, _⟩ := h
    rw [← r.length]; exact hl
  · obtain ⟨p, s, ds, hl, hs, r, q⟩ := h
    refine ⟨p, _, s, re_start r N, hs, ?_⟩
    unfold mDef at q
    rw [if_pos hl] at q
    rw [hl]
    show pS K _ _ p H (mb (ds.map some ++ List.replicate (N.length - ps.length) none) s)
    cases hq : mb (ds.map some ++ List.replicate (N.length - ps.length) none) s with
    | nx r1 s1 => rw [hq] at q; exact fun p' H' t ex rs re => q p' H' .non ex rs .non
    | rt d s1 => rw [hq] at q; exact fun p' H' v ex rs rd => q p' H' v ex rs rd
    | exc e r1 s1 => rw [hq] at q; exact fun p' H' t d ex rs re rx => q p' H' d ex rs rx
    | bk _ _ => rw [hq] at q; exact q.elim
    | ct _ _ => rw [hq] at q; exact q.elim
    | bad => rw [hq] at q; exact q.elim

/-! ### what is new and unreachable is forgotten -/
mutual
def D.lt (n : Nat) : D → Bool
  | .loc m => decide (m < n)
  | .tup ds => D.lts n ds
  | .con _ => true
  | .non => true
  | .bl _ => true
  | .int _ => true
  | .str _ => true
def D.lts (n : Nat) : List D → Bool
  | [] => true
  | d :: ds => D.lt n d && D.lts n ds
end
def Ob.lt (n : Nat) : Ob → Bool
  | .lst ds => D.lts n ds
  | .dct kvs => kvs.all fun kv => D.lt n kv.2
  | .lok kvs => kvs.all fun kv => D.lt n kv.2
  | .ins _ fs => fs.all fun kv => D.lt n kv.2
section
variable {K : PySem.W.Frag} {p q : List Addr} {H : Hp}
mutual
theorem RD.cut : ∀ {d : D} {v : V}, RD K (p ++ q) H d v → D.lt p.length d = true → RD K p H d v
  | _, _, .non, _ => .non
  | _, _, .bl b, _ => .bl b
  | _, _, .int i, _ => .int i
  | _, _, .str x, _ => .str x
  | _, _, .con v, _ => .con v
  | .loc m, _, .loc h, e => by
    simp only [D.lt, decide_eq_true_eq] at e
    rw [List.getElem?_append_left e] at h
    exact .loc h
  | .tup ds, _, .tup h r, e => by
    simp only [D.lt] at e
    exact .tup h (RDs.cut r e)
theorem RDs.cut : ∀ {ds : List D} {vs : List V}, RDs K (p ++ q) H ds vs → D.lts p.length ds = true → RDs K p H ds vs
  | _, _, .nil, _ => .nil
  | d :: ds, _, .cons h r, e => by
    simp only [D.lts, Bool.and_eq_true] at e
    exact .cons (RD.cut h e.1) (RDs.cut r e.2)
end
mutual
theorem RD.lt : ∀ {d : D} {v : V}, RD K p H d v → D.lt p.length d = true
  | _, _, .non => rfl
  | _, _, .bl b => rfl
  | _, _, .int i => rfl
  | _, _, .str x => rfl
  | _, _, .con v => rfl
  | .loc m, _, .loc h => by
    simp only [D.lt, decide_eq_true_eq]
    exact (List.getElem?_eq_some_iff.mp h).1
  | .tup ds, _, .tup h r => by
    simp only [D.lt]
    exact RDs.lt r
theorem RDs.lt : ∀ {ds : List D} {vs : List V}, RDs K p H ds vs → D.lts p.length ds = true
  | _, _, .nil => rfl
  | d :: ds, _, .cons h r => by
    simp only [D.lts, Bool.and_eq_true]
    exact ⟨RD.lt h, RDs.lt r⟩
end
theorem RF.cut {κ : Type} {ds : List (κ × D)} {vs : List (κ × V)} (r : RF K (p ++ q) H ds vs) : (ds.all fun kv => D.lt p.length kv.2) = true → RF K p H ds vs := by
  induction r with
  | nil => intro _; exact .nil
  | cons h r ih =>
    intro e
    simp only [List.all_cons, Bool.and_eq_true] at e
    exact .cons ⟨h.1, h.2.cut e.1⟩ (ih e.2)
theorem RF.lt {κ : Type} {ds : List (κ × D)} {vs : List (κ × V)} (r : RF K p H ds vs) : (ds.all fun kv => D.lt p.length kv.2) = true := by
  induction r with
  | nil => rfl
  | cons h r ih => simp only [List.all_cons, Bool.and_eq_true]; exact ⟨h.2.lt, ih⟩
theorem RO.cut {ob : Ob} {o : HO} (r : RO K (p ++ q) H ob o) (e : Ob.lt p.length ob = true) : RO K p H ob o := by
  cases r with
  | lst r => exact .lst (r.cut e)
  | dct r => exact .dct (RF.cut r e)
  | lok r => exact .lok (RF.cut r e)
  | ins q r => exact .ins q (RF.cut r e)
theorem RO.lt {ob : Ob} {o : HO} (r : RO K p H ob o) : Ob.lt p.length ob = true := by
  cases r with
  | lst r => exact r.lt
  | dct r => exact RF.lt r
  | lok r => exact RF.lt r
  | ins _ r => exact RF.lt r
end
open Classical in
noncomputable def mForget (f : MF) : MF := fun ds s => match f ds s with
  | .ok d s' => if s.length ≤ s'.length ∧ D.lt s.length d = true ∧ ∀ i ob, i < s.length → s'[i]? = some ob → (s[i]? = some ob ∨ Ob.lt s.length ob = true) then .ok d (s'.take s.length) else .ok d s'
  | x => x
end DL
end
/-! ### DL12 -/
section
set_option linter.all false
set_option maxRecDepth 100000
/-! DL12: what is known of a def, a method, a class; results renamed. -/
namespace DL
open PySem PySem.Spec L2
open PyProof.Rows hiding St
variable [Tbs]

/-- a def of the module with its promise -/
def Kn (P : Program) (w : World) (K : PySem.W.Frag) (mg : Str → Option Value) (base : Heap) (x : Str) (k : Nat) (ps : List Str) (m : MF) : Prop :=
  ∃ f fd, mg x = some (.ref f) ∧ PySem.W.keepIn K (.ref f) = true ∧ Binds K fd ps [] ∧ FnD P w K mg base k f fd ps m
/-- a method -/
def Km (P : Program) (w : World) (K : PySem.W.Frag) (mg : Str → Option Value) (base : Heap) (C : Addr) (x : Str) (k : Nat) (ps : List Str) (m : MF) : Prop :=
  ∃ f fd, Meth K C x f ∧ Binds K fd ps [] ∧ FnD P w K mg base k f fd ps m
/-- a class that is made -/
def Kc (P : Program) (w : World) (K : PySem.W.Frag) (mg : Str → Option Value) (base : Heap) (x : Str) (C : Addr) (k : Nat) (ps : List Str) (m : MF) : Prop :=
  ∃ f fd, OwnC K C ∧ Mk K C f ∧ mg x = some (.ref C) ∧ Binds K fd ps [] ∧ FnD P w K mg base k f fd ps m
section
variable {X : Cx} {W : WX} {pos : Pos} {e o : Expr} {es : List Expr} {ma : MA} {mo : ME} {k j : Nat} {C : Addr} {ps : List Str} {m : MF} {x mn : Str} {p apos : Pos}
theorem de_fn (h : Kn X.prog X.w X.K X.mg X.base x k ps m) (hr : Room j X.A) (hj : k ≤ j) (tk : Takes X W) (hg : Gl X x) (hlen : (e :: es).length = ps.length) (ha : DA X W (e :: es) ma)
    (hma : ∀ r s ds s', ma r s = .ok ds s' → ds.length = ps.length) (hdb : (x == ("__debug__" : Str)) = false := by decide) (he : starEach (e :: es) X.env = (false, eval e X.env) :: starEach es X.env := by rfl) (hpl : (backTo pos (starEach es X.env)).any (·.1) = false := by rfl) :
    DE X W (.Call (.Name x p) (e :: es) [] pos) (mCall m ma) := by
  obtain ⟨f, fd, h1, h2, h3, h4⟩ := h
  exact de_call h4 (hr.mono hj) tk hg h1 h2 h3 hlen ha hdb hma he hpl
theorem de_mt {pl : Sem Bool} (ho : DE X W o mo) (c : Cls X.K C) (h : Km X.prog X.w X.K X.mg X.base C mn k ps m) (hr : Room j X.A) (hj : k ≤ j) (tk : Takes X W) (ha : DA X W (e :: es) ma)
    (hma : ∀ r s ds s', ma r s = .ok ds s' → ds.length + 1 = ps.length) (hst : starEach (e :: es) X.env = (false, eval e X.env) :: starEach es X.env := by rfl) (hpl : (backTo pos (starEach es X.env)).any (·.1) = false := by rfl)
    (ht : eval (.Call (.Attribute o mn apos) (e :: es) [] pos) X.env = (do
      let ov ← eval o X.env
      standAt apos.atName
      let (f, first) ← holding [ov] (getMethod ov mn pl)
      callWith pos f first (backTo pos (starEach (e :: es) X.env)) (backToKw pos (keywordEach [] X.env))) := by rfl) :
    DE X W (.Call (.Attribute o mn apos) (e :: es) [] pos) (mMeth C mn m mo ma) := by
  obtain ⟨f, fd, h1, h3, h4⟩ := h
  exact de_meth ho c h1 h4 (hr.mono hj) tk h3 ha hma hst hpl ht
theorem de_mt0 {pl : Sem Bool} (ho : DE X W o mo) (c : Cls X.K C) (h : Km X.prog X.w X.K X.mg X.base C mn k ps m) (hr : Room j X.A) (hj : k ≤ j) (tk : Takes X W) (hps : ps.length = 1)
    (ht : eval (.Call (.Attribute o mn apos) [] [] pos) X.env = (do
      let ov ← eval o X.env
      standAt apos.atName
      let (f, first) ← holding [ov] (getMethod ov mn pl)
      callWith pos f first (backTo pos (starEach [] X.env)) (backToKw pos (keywordEach [] X.env))) := by rfl) :
    DE X W (.Call (.Attribute o mn apos) [] [] pos) (mMeth C mn m mo mNil) := by
  obtain ⟨f, fd, h1, h3, h4⟩ := h
  exact de_meth0 ho c h1 h4 (hr.mono hj) tk h3 hps ht
theorem de_mk (h : Kc X.prog X.w X.K X.mg X.base x C k ps m) (hr : Room j X.A) (hj : k + 1 ≤ j) (tk : Takes X W) (hg : Gl X x) (ha : DA X W (e :: es) ma)
    (hma : ∀ r s ds s', ma r s = .ok ds s' → ds.length + 1 = ps.length) (hdb : (x == ("__debug__" : Str)) = false := by decide) (he : starEach (e :: es) X.env = (false, eval e X.env) :: starEach es X.env := by rfl) (hpl : (backTo pos (starEach es X.env)).any (·.1) = false := by rfl) :
    DE X W (.Call (.Name x p) (e :: es) [] pos) (mMake C m ma) := by
  obtain ⟨f, fd, h0, h1, h2, h3, h4⟩ := h
  exact de_make h0 h1 h4 (hr.mono hj) tk hg h2 h3 ha hma hdb he hpl
theorem de_gi {i : Int} (hm : ∃ t, X.mg x = some (.int i t)) (hg : Gl X x) (hd : (x == ("__debug__" : Str)) = false := by decide) : DE X W (.Name x pos) (mC (.int i)) := by
  obtain ⟨t, h⟩ := hm
  exact de_gint hg h hd
end

/-! ### new objects renamed -/
def rn (n : Nat) (ren : List Nat) (x : Nat) : Nat := if x < n then x else n + ren.idxOf x
mutual
def D.rn (f : Nat → Nat) : D → D
  | .loc m => .loc (f m)
  | .tup ds => .tup (D.rns f ds)
  | .con v => .con v
  | .non => .non
  | .bl b => .bl b
  | .int i => .int i
  | .str x => .str x
def D.rns (f : Nat → Nat) : List D → List D
  | [] => []
  | d :: ds => D.rn f d :: D.rns f ds
end
mutual
/-- all places that are met satisfy a -/
def D.ok (a : Nat → Prop) : D → Prop
  | .loc m => a m
  | .tup ds => D.oks a ds
  | .con _ => True
  | .non => True
  | .bl _ => True
  | .int _ => True
  | .str _ => True
def D.oks (a : Nat → Prop) : List D → Prop
  | [] => True
  | d :: ds => D.ok a d ∧ D.oks a ds
end
def Ob.rn (f : Nat → Nat) : Ob → Ob
  | .lst ds => .lst (D.rns f ds)
  | .dct kvs => .dct (kvs.map fun kv => (kv.1, kv.2.rn f))
  | .lok kvs => .lok (kvs.map fun kv => (kv.1, kv.2.rn f))
  | .ins C fs => .ins C (fs.map fun kv => (kv.1, kv.2.rn f))
def Ob.ok (a : Nat → Prop) : Ob → Prop
  | .lst ds => D.oks a ds
  | .dct kvs => ∀ kv ∈ kvs, D.ok a kv.2
  | .lok kvs => ∀ kv ∈ kvs, D.ok a kv.2
  | .ins _ fs => ∀ kv ∈ fs, D.ok a kv.2
section
variable {K : PySem.W.Frag} {p p' : List Addr} {H : Hp} {f : Nat → Nat} {a : Nat → Prop}
mutual
theorem RD.ren (h : ∀ m, a m → ∀ b, p[m]? = some b → p'[f m]? = some b) : ∀ {d : D} {v : V}, RD K p H d v → D.ok a d → RD K p' H (d.rn f) v
  | _, _, .non, _ => by simp only [D.rn]; exact .non
  | _, _, .bl b, _ => by simp only [D.rn]; exact .bl b
  | _, _, .int b, _ => by simp only [D.rn]; exact .int b
  | _, _, .str b, _ => by simp only [D.rn]; exact .str b
  | _, _, .con b, _ => by simp only [D.rn]; exact .con b
  | .loc m, _, .loc e, q => by
    simp only [D.rn]
    simp only [D.ok] at q
    exact .loc (h m q _ e)
  | .tup ds, _, .tup e r, q => by
    simp only [D.rn]
    simp only [D.ok] at q
    exact .tup e (RDs.ren h r q)
theorem RDs.ren (h : ∀ m, a m → ∀ b, p[m]? = some b → p'[f m]? = some b) : ∀ {ds : List D} {vs : List V}, RDs K p H ds vs → D.oks a ds → RDs K p' H (D.rns f ds) vs
  | _, _, .nil, _ => by simp only [D.rns]; exact .nil
  | d :: ds, _, .cons e r, q => by
    simp only [D.oks] at q
    simp only [D.rns]
    exact .cons (RD.ren h e q.1) (RDs.ren h r q.2)
end
theorem RF.ren {κ : Type} (h : ∀ m, a m → ∀ b, p[m]? = some b → p'[f m]? = some b) {ds : List (κ × D)} {vs : List (κ × V)} (r : RF K p H ds vs) : (∀ kv ∈ ds, D.ok a kv.2) → RF K p' H (ds.map fun kv => (kv.1, kv.2.rn f)) vs := by
  induction r with
  | nil => intro _; exact .nil
  | cons e r ih =>
    intro q
    exact .cons ⟨e.1, e.2.ren h (q _ List.mem_cons_self)⟩ (ih fun kv hk => q kv (List.mem_cons_of_mem _ hk))
theorem RO.ren (h : ∀ m, a m → ∀ b, p[m]? = some b → p'[f m]? = some b) {ob : Ob} {o : HO} (r : RO K p H ob o) (q : Ob.ok a ob) : RO K p' H (ob.rn f) o := by
  cases r with
  | lst r => exact .lst (r.ren h q)
  | dct r => exact .dct (RF.ren h r q)
  | lok r => exact .lok (RF.ren h r q)
  | ins oc r => exact .ins oc (RF.ren h r q)
end
/-- which new objects stay, under which names: ren; all that is met is old or stays -/
structure Gc (n : Nat) (ren : List Nat) (d : D) (s' : Sto) (d1 : D) (s1 : Sto) : Prop where
  le : n ≤ s'.length
  nd : ren.Nodup
  new : ∀ x ∈ ren, n ≤ x ∧ x < s'.length
  okd : D.ok (fun x => x < n ∨ x ∈ ren) d
  d_ : d1 = d.rn (rn n ren)
  len : s1.length = n + ren.length
  old : ∀ i ob, i < n → s'[i]? = some ob → Ob.ok (fun x => x < n ∨ x ∈ ren) ob ∧ s1[i]? = some (ob.rn (rn n ren))
  kept : ∀ j x ob, ren[j]? = some x → s'[x]? = some ob → Ob.ok (fun x => x < n ∨ x ∈ ren) ob ∧ s1[n + j]? = some (ob.rn (rn n ren))
/-- r' says no more than r -/
def RefR (n : Nat) (r r' : R D) : Prop := match r' with
  | .bad => True
  | .exc e s1 => r = .exc e s1
  | .ok d1 s1 => ∃ d s', r = .ok d s' ∧ ((d1 = d ∧ s1 = s') ∨ ∃ ren, Gc n ren d s' d1 s1)
def Ref (m m' : MF) : Prop := ∀ ds s, RefR s.length (m ds s) (m' ds s)
theorem nodup_get {α : Type} [DecidableEq α] : ∀ {l : List α} {i j : Nat} {x : α}, l.Nodup → l[i]? = some x → l[j]? = some x → i = j
  | [], i, j, x, _, h, _ => by simp at h
  | y :: l, 0, 0, x, _, _, _ => rfl
  | y :: l, 0, j + 1, x, n, h, h' => by
    simp at h h'
    subst h
    exact absurd (List.mem_of_getElem? h') (List.nodup_cons.mp n).1
  | y :: l, i + 1, 0, x, n, h, h' => by
    simp at h h'
    subst h'
    exact absurd (List.mem_of_getElem? h) (List.nodup_cons.mp n).1
  | y :: l, i + 1, j + 1, x, n, h, h' => by
    simp at h h'
    rw [nodup_get (List.nodup_cons.mp n).2 h h']
theorem idxOf_get {l : List Nat} {x : Nat} (h : x ∈ l) : l[l.idxOf x]? = some x := by
  rw [List.getElem?_eq_some_iff]
  exact ⟨List.idxOf_lt_length_iff.mpr h, List.getElem_idxOf _⟩
theorem map_nodup {α β : Type} {f : α → β} : ∀ {l : List α}, l.Nodup → (∀ x ∈ l, ∀ y ∈ l, f x = f y → x = y) → (l.map f).Nodup
  | [], _, _ => by simp
  | x :: l, n, h => by
    simp only [List.map_cons, List.nodup_cons]
    refine ⟨fun hm => ?_, map_nodup (List.nodup_cons.mp n).2 fun a ha b hb => h a (List.mem_cons_of_mem _ ha) b (List.mem_cons_of_mem _ hb)⟩
    obtain ⟨y, hy, e⟩ := List.mem_map.mp hm
    have := h y (List.mem_cons_of_mem _ hy) x List.mem_cons_self e
    subst this
    exact (List.nodup_cons.mp n).1 hy
theorem gc_run {K : PySem.W.Frag} {p p' : List Addr} {H H' : Hp} {s s' s1 : Sto} {d d1 : D} {v : V} {ren : List Nat} {Q : VK} (g : Gc s.length ren d s' d1 s1) (hs : RS K p s H) (ex : Ex p H p' H') (rs : RS K p' s' H') (rd : RD K p' H' d v) (q : Fin K p H d1 s1 Q) : Q v H' := by
  obtain ⟨pq, rfl⟩ := ex.pre
  have hlen := hs.len
  let p2 := p ++ ren.map fun x => (p ++ pq).getD x 0
  have hold : ∀ x, x < s.length → p2[x]? = p[x]? := fun x hx => List.getElem?_append_left (by rw [hlen]; exact hx)
  have hold2 : ∀ x, x < s.length → (p ++ pq)[x]? = p[x]? := fun x hx => List.getElem?_append_left (by rw [hlen]; exact hx)
  have hnew : ∀ j x b, ren[j]? = some x → (p ++ pq)[x]? = some b → p2[s.length + j]? = some b := fun j x b hj hb => by
    show (p ++ _)[s.length + j]? = _
    rw [List.getElem?_append_right (by omega), hlen, Nat.add_sub_cancel_left, List.getElem?_map, hj]
    simp only [Option.map_some, List.getD_eq_getElem?_getD, hb, Option.getD_some]
  have hmap : ∀ m, (m < s.length ∨ m ∈ ren) → ∀ b, (p ++ pq)[m]? = some b → p2[rn s.length ren m]? = some b := fun m hm b hb => by
    unfold rn
    by_cases hl : m < s.length
    · rw [if_pos hl, hold m hl, ← hold2 m hl]; exact hb
    · rw [if_neg hl]
      exact hnew _ m b (idxOf_get (hm.resolve_left hl)) hb
  refine q p2 H' v ⟨⟨_, rfl⟩, ex.tup, ex.fr, fun a ha hn => ?_, ex.fz⟩ ⟨?_, ?_, fun n ob a e1 e2 => ?_, rs.tab, rs.cob, ⟨by obtain ⟨q0, e0⟩ := hs.e0.pre; exact ⟨q0 ++ (ren.map fun x => (p ++ pq).getD x 0), by show p ++ (ren.map fun x => (p ++ pq).getD x 0) = Tbs.p0 ++ (q0 ++ (ren.map fun x => (p ++ pq).getD x 0)); rw [← List.append_assoc, ← e0]⟩, rs.e0.tup⟩⟩ (by rw [g.d_]; exact rd.ren hmap g.okd)
  · rcases List.mem_append.mp ha with h | h
    · exact absurd h hn
    · obtain ⟨x, hx, rfl⟩ := List.mem_map.mp h
      have hx2 : x < (p ++ pq).length := by rw [rs.len]; exact (g.new x hx).2
      refine ex.nw _ ?_ hn
      rw [List.getD_eq_getElem?_getD, List.getElem?_eq_getElem hx2]
      exact List.getElem_mem hx2
  · show (p ++ _).length = _
    rw [List.length_append, List.length_map, hlen, g.len]
  · show (p ++ _).Nodup
    have hget : ∀ x ∈ ren, ∃ b, (p ++ pq)[x]? = some b := fun x hx => ⟨_, List.getElem?_eq_getElem (by rw [rs.len]; exact (g.new x hx).2)⟩
    refine List.nodup_append.mpr ⟨hs.nd, map_nodup g.nd fun x hx y hy e => ?_, fun a ha b hb e => ?_⟩
    · obtain ⟨b, hb⟩ := hget x hx
      obtain ⟨c, hc⟩ := hget y hy
      rw [List.getD_eq_getElem?_getD, List.getD_eq_getElem?_getD, hb, hc] at e
      simp at e
      subst e
      exact nodup_get rs.nd hb hc
    · subst e
      obtain ⟨x, hx, e⟩ := List.mem_map.mp hb
      obtain ⟨c, hc⟩ := hget x hx
      rw [List.getD_eq_getElem?_getD, hc] at e
      simp at e
      subst e
      obtain ⟨i, hi⟩ := List.mem_iff_getElem?.mp ha
      have hil : i < p.length := (List.getElem?_eq_some_iff.mp hi).1
      have := nodup_get (i := i) (j := x) rs.nd (by rw [List.getElem?_append_left hil]; exact hi) hc
      have := (g.new x hx).1
      omega
  · by_cases hl : n < s.length
    · have hb : n < s'.length := Nat.lt_of_lt_of_le hl g.le
      obtain ⟨ok, e3⟩ := g.old n s'[n] hl (List.getElem?_eq_getElem hb)
      rw [e3] at e1; cases e1
      obtain ⟨o, h1, h2⟩ := rs.ob n s'[n] a (List.getElem?_eq_getElem hb) (by rw [hold2 n hl, ← hold n hl]; exact e2)
      exact ⟨o, h1, h2.ren hmap ok⟩
    · have hn1 : n < s1.length := (List.getElem?_eq_some_iff.mp e1).1
      rw [g.len] at hn1
      have hj : n - s.length < ren.length := by omega
      have hx := List.getElem?_eq_getElem hj
      have hxl := (g.new _ (List.mem_of_getElem? hx)).2
      have hob := List.getElem?_eq_getElem hxl
      obtain ⟨ok, e3⟩ := g.kept _ _ _ hx hob
      have en : s.length + (n - s.length) = n := by omega
      rw [en] at e3
      rw [e3] at e1; cases e1
      have hxp : ren[n - s.length] < (p ++ pq).length := by rw [rs.len]; exact hxl
      have e5 := hnew _ _ _ hx (List.getElem?_eq_getElem hxp)
      rw [en, e2] at e5
      obtain ⟨o, h1, h2⟩ := rs.ob _ _ a hob (by rw [List.getElem?_eq_getElem hxp]; exact e5.symm)
      exact ⟨o, h1, h2.ren hmap ok⟩
theorem fn_ref {P : Program} {w : World} {K : PySem.W.Frag} {mg : Str → Option Value} {base : Heap} {f : Addr} {fd : FuncData} {ps : List Str} {k : Nat} {m m' : MF} (F : FnD P w K mg base k f fd ps m) (h : Ref m m') : FnD P w K mg base k f fd ps m' :=
  FnOk.imp F fun vs H Q E ⟨p, s, ds, hl, hs, r, q⟩ => by
    refine ⟨p, s, ds, hl, hs, r, ?_⟩
    have hr := h ds s
    cases hq : m' ds s with
    | bad => rw [hq] at q; exact q.elim
    | exc e s1 => rw [hq] at q hr; rw [show m ds s = _ from hr]; exact q
    | ok d1 s1 =>
      rw [hq] at q hr
      obtain ⟨d, s', e, hr⟩ := hr
      rw [e]
      rcases hr with ⟨rfl, rfl⟩ | ⟨ren, g⟩
      · exact q
      · exact fun p' H' v ex rs rd => gc_run g hs ex rs rd q
theorem Kn.ref {P : Program} {w : World} {K : PySem.W.Frag} {mg : Str → Option Value} {base : Heap} {x : Str} {ps : List Str} {k : Nat} {m m' : MF} (F : Kn P w K mg base x k ps m) (h : Ref m m') : Kn P w K mg base x k ps m' := by
  obtain ⟨f, fd, h1, h2, h3, h4⟩ := F
  exact ⟨f, fd, h1, h2, h3, fn_ref h4 h⟩
theorem Km.ref {P : Program} {w : World} {K : PySem.W.Frag} {mg : Str → Option Value} {base : Heap} {C : Addr} {x : Str} {ps : List Str} {k : Nat} {m m' : MF} (F : Km P w K mg base C x k ps m) (h : Ref m m') : Km P w K mg base C x k ps m' := by
  obtain ⟨f, fd, h1, h3, h4⟩ := F
  exact ⟨f, fd, h1, h3, fn_ref h4 h⟩
theorem Kc.ref {P : Program} {w : World} {K : PySem.W.Frag} {mg : Str → Option Value} {base : Heap} {C : Addr} {x : Str} {ps : List Str} {k : Nat} {m m' : MF} (F : Kc P w K mg base x C k ps m) (h : Ref m m') : Kc P w K mg base x C k ps m' := by
  obtain ⟨f, fd, h0, h1, h2, h3, h4⟩ := F
  exact ⟨f, fd, h0, h1, h2, h3, fn_ref h4 h⟩
end DL
end
/-! ### DL13 -/
section
set_option linter.all false
set_option maxRecDepth 100000
/-! DL13: sorted of pairs whose first are unlike whole numbers. -/
namespace SrtK
open PySem PyProof.Rows Srt SrtO
section
variable {prog : Program} {w : World} {A : Around} {E : Value → Shared → Prop} {s : Shared}
/-- the first of a pair -/
def fst (h : Heap) : Value → Int
  | .ref a => match h.get? a with
    | some o => (match o.data with
      | .seq xs _ => (match xs[0]? with
        | some (Value.int i _) => i
        | _ => 0)
      | _ => 0)
    | none => 0
  | _ => 0
def IsP (h : Heap) (v : Value) (x : Int) : Prop := ∃ a o t y n, v = .ref a ∧ h.get? a = some o ∧ o.cls = .type "tuple" ∧ o.data = .seq #[.int x t, y] n
theorem IsP.keeps {h h' : Heap} {v : Value} {x : Int} (p : IsP h v x) (k : ∀ b o, h.get? b = some o → o.cls = .type "tuple" → h'.get? b = some o) : IsP h' v x := by
  obtain ⟨a, o, t, y, n, e, ho, hc, hd⟩ := p
  exact ⟨a, o, t, y, n, e, k _ _ ho hc, hc, hd⟩
theorem IsP.fst {h : Heap} {v : Value} {x : Int} (p : IsP h v x) : fst h v = x := by
  obtain ⟨a, o, t, y, n, rfl, ho, hc, hd⟩ := p
  simp [SrtK.fst, ho, hd]
theorem swo_key (k : Value → Int) : Swo fun v u => decide (k v < k u) := by
  refine ⟨fun x y h => ?_, fun x y z h1 h2 => ?_⟩
  · have a := of_decide_eq_true h
    exact decide_eq_false (by omega)
  · have a := of_decide_eq_false h1
    have b := of_decide_eq_false h2
    exact decide_eq_false (by omega)
theorem key_cmp {vs : List Value} {k : Value → Int} (hp : ∀ v ∈ vs, IsP s.heap v (k v)) (hk : ∀ v ∈ vs, ∀ u ∈ vs, k v = k u → v = u) : Cmp prog w A s (tuples' true) (fun p => p.1 ∈ vs) (lt2 fun v u => decide (k v < k u)) := by
  intro p q hm hm'
  have h1 := hp _ hm
  have h2 := hp _ hm'
  have h3 := hk _ hm _ hm'
  show wpAny (model prog w) A (keyLt' (tuples' true) p.1 q.1) (fun r s' => s' = s ∧ r = decide (k p.1 < k q.1)) (fun _ _ => False) s
  generalize k p.1 = x at h1 h3 ⊢
  generalize k q.1 = x' at h2 h3 ⊢
  obtain ⟨a, o, t, y, n, e, ho, hc, hd⟩ := h1
  obtain ⟨a', o', t', y', n', e', ho', hc', hd'⟩ := h2
  rw [e, e'] at h3 ⊢
  refine PySem.W.kat_lt ho hd ho' hd' ?_
  show PySem.W.KatLex prog w A true (decide (2 < 2)) _ [(.int x t, .int x' t'), (y, y')] 0 s
  refine PySem.W.kat_cons (SeqAt.EqAt.int_int x t x' t' prog w _ _ ?_)
  refine PySem.W.kat_go (fun e1 => ?_) (fun e1 => ?_)
  · have ex : x = x' := by simpa using e1
    have ea := h3 ex
    cases ea
    rw [ho] at ho'
    cases ho'
    rw [hd] at hd'
    cases hd'
    refine PySem.W.kat_yes (PySem.W.kat_cons (SeqAt.EqAt.same y prog w _ _ ?_))
    exact PySem.W.kat_yes (PySem.W.kat_nil ⟨rfl, by simp [ex]⟩)
  · exact PySem.W.kat_no (oneLt_int ⟨rfl, rfl⟩)
theorem firsts_of {h : Heap} : ∀ {vs : List Value}, (∀ v ∈ vs, ∃ x, IsP h v x) → ∃ fs : List Value, PySem.W.KatTups h vs fs ∧ fs.length = vs.length ∧ ∀ f ∈ fs, ∃ x t, f = Value.int x t
  | [], _ => ⟨[], PySem.W.KatTups.nil, rfl, fun _ hm => by simp at hm⟩
  | v :: vs, hp => by
    obtain ⟨fs, h1, h2, h3⟩ := firsts_of (vs := vs) fun v' hm => hp v' (List.mem_cons_of_mem _ hm)
    obtain ⟨x, a, o, t, y, n, e, ho, hc, hd⟩ := hp v (List.mem_cons_self ..)
    subst e
    refine ⟨.int x t :: fs, PySem.W.KatTups.cons ho hc hd rfl h1, by rw [List.length_cons, List.length_cons, h2], fun f hm => ?_⟩
    rcases List.mem_cons.mp hm with rfl | hm
    · exact ⟨_, _, rfl⟩
    · exact h3 f hm
theorem keys_sortable {a : Addr} {vs : List Value} {k : Value → Int} (h0 : 0 < vs.length) (hp : ∀ v ∈ vs, IsP s.heap v (k v)) (hk : ∀ v ∈ vs, ∀ u ∈ vs, k v = k u → v = u) (ha : ∀ o, s.heap.get? a = some o → o.cls ≠ .type "tuple") : SortableO prog w A s a vs fun v u => decide (k v < k u) := by
  intro h' keep
  have hp' : ∀ v ∈ vs, IsP h' v (k v) := fun v hm => (hp v hm).keeps fun b o e c => keep b o (fun z => by subst z; exact ha o e c) e
  obtain ⟨fs, h1, h2, h3⟩ := firsts_of fun v hm => ⟨_, hp' v hm⟩
  refine ⟨tuples' true, fun Q E hq => ?_, key_cmp hp' hk⟩
  refine PySem.W.kat_kind (T := .type "int") h1 (by omega) (fun f hm => ?_) (by rfl) ?_
  · obtain ⟨x, t, rfl⟩ := h3 f hm
    exact PySem.W.Looks.now
  · have e : (Value.type "int" != Value.type "tuple") = true := by first | decide +kernel | rfl | decide
    rw [e]
    exact hq
theorem sorted_keys {l : Addr} {vs : List Value} {k : Value → Int} {Q : Value → Shared → Prop} (hl : s.heap.IsList l vs.toArray) (hz : vs.length ≤ sizeLine) (hp : ∀ v ∈ vs, IsP s.heap v (k v)) (hk : ∀ v ∈ vs, ∀ u ∈ vs, k v = k u → v = u)
    (h : ∀ (h' : Heap) (d : Addr) (out : List Value), Srtd (fun v u => decide (k v < k u)) out → out.Perm vs → (∀ b o, s.heap.get? b = some o → h'.get? b = some o) → s.heap.objs.size ≤ d → (∃ n, h'.get? d = some (seqObj "list" out.toArray n)) → Q (.ref d) { s with heap := h' }) :
    wpAny (model prog w) A (call (.builtin "sorted") [.ref l]) Q E s := by
  refine sorted_ord (swo_key k) hl hz (fun h2 h₁ a ha kk => ?_) fun out hs hb => ?_
  · refine keys_sortable (s := { s with heap := h₁ }) (by omega) (fun v hm => (hp v hm).keeps fun b o e _ => (kk b o e).2) hk fun o e => ?_
    have e' : some o = some (seqObj "list" vs.toArray 0) := e.symm.trans ha
    cases e'
    intro c
    exact absurd (Value.type.inj c) (by decide)
  · exact h _ _ out hs hb.perm (fun b o e => sortedAll_old e) (Nat.le_succ _) (sortedAll_at s.heap vs out.toArray)
end
end SrtK
namespace DL
open PySem PySem.Spec L2
open PyProof.Rows hiding St
variable [Tbs]
/-! ### by a key -/
section
variable {α : Type}
def insK (k : α → Int) (x : α) : List α → List α
  | [] => [x]
  | y :: ys => if k x ≤ k y then x :: y :: ys else y :: insK k x ys
def sortK (k : α → Int) : List α → List α
  | [] => []
  | x :: xs => insK k x (sortK k xs)
theorem insK_perm (k : α → Int) (x : α) : ∀ ys : List α, (insK k x ys).Perm (x :: ys)
  | [] => .refl _
  | y :: ys => by
    unfold insK
    split
    · exact .refl _
    · exact ((insK_perm k x ys).cons y).trans (.swap x y ys)
theorem sortK_perm (k : α → Int) : ∀ xs : List α, (sortK k xs).Perm xs
  | [] => .refl _
  | x :: xs => (insK_perm k x _).trans ((sortK_perm k xs).cons x)
theorem insK_sorted (k : α → Int) (x : α) : ∀ {ys : List α}, ys.Pairwise (fun a b => k a ≤ k b) → (insK k x ys).Pairwise (fun a b => k a ≤ k b)
  | [], _ => by simp [insK]
  | y :: ys, h => by
    unfold insK
    have h1 := List.pairwise_cons.mp h
    split
    · rename_i hc
      refine List.pairwise_cons.mpr ⟨fun z hz => ?_, h⟩
      rcases List.mem_cons.mp hz with rfl | hz
      · exact hc
      · exact Int.le_trans hc (h1.1 z hz)
    · rename_i hc
      refine List.pairwise_cons.mpr ⟨fun z hz => ?_, insK_sorted k x h1.2⟩
      rcases List.mem_cons.mp ((insK_perm k x ys).mem_iff.mp hz) with rfl | hz
      · omega
      · exact h1.1 z hz
theorem sortK_sorted (k : α → Int) : ∀ xs : List α, (sortK k xs).Pairwise (fun a b => k a ≤ k b)
  | [] => .nil
  | x :: xs => insK_sorted k x (sortK_sorted k xs)
theorem map_inj_on {β : Type} {k : α → β} : ∀ {xs ys : List α} {us : List α}, (∀ v ∈ us, ∀ u ∈ us, k v = k u → v = u) → (∀ x ∈ xs, x ∈ us) → (∀ y ∈ ys, y ∈ us) → xs.map k = ys.map k → xs = ys
  | [], [], _, _, _, _, _ => rfl
  | [], y :: ys, _, _, _, _, e => by simp at e
  | x :: xs, [], _, _, _, _, e => by simp at e
  | x :: xs, y :: ys, us, h, hx, hy, e => by
    simp only [List.map_cons, List.cons.injEq] at e
    rw [h x (hx x List.mem_cons_self) y (hy y List.mem_cons_self) e.1, map_inj_on h (fun z hz => hx z (List.mem_cons_of_mem _ hz)) (fun z hz => hy z (List.mem_cons_of_mem _ hz)) e.2]
/-- there is just one such list -/
theorem sortK_uniq {k : α → Int} {xs us : List α} (hk : ∀ v ∈ us, ∀ u ∈ us, k v = k u → v = u) (hp : xs.Perm us) (hs : xs.Pairwise (fun a b => k a ≤ k b)) : xs = sortK k us := by
  refine map_inj_on hk (fun x hx => hp.mem_iff.mp hx) (fun y hy => (sortK_perm k us).mem_iff.mp hy) ?_
  exact sorted_same ((hp.trans (sortK_perm k us).symm).map k) (List.pairwise_map.mpr hs) (List.pairwise_map.mpr (sortK_sorted k us))
end
/-- the first of a pair -/
def fstD : D → Option Int
  | .tup [.int i, _] => some i
  | _ => none
def fsts : List D → Option (List Int)
  | [] => some []
  | d :: ds => (fstD d).bind fun i => (fsts ds).map (i :: ·)
def keyP (d : D) : Int := (fstD d).getD 0
def gSortedP : GL
  | [.loc n], s => match s[n]? with
    | some (.lst ds) => (fsts ds).bind fun is => if is.Nodup then some (sortK keyP ds) else none
    | _ => none
  | _, _ => none
section
variable {K : PySem.W.Frag} {p : List Addr} {H : Hp}
theorem insK_rd {k : D → Int} {kv : V → Int} {d : D} {v : V} (rd : RD K p H d v ∧ k d = kv v) : ∀ {ds : List D} {us : List V}, Paired (fun d v => RD K p H d v ∧ k d = kv v) ds us → Paired (fun d v => RD K p H d v ∧ k d = kv v) (insK k d ds) (insK kv v us)
  | _, _, .nil => .cons rd .nil
  | d1 :: ds, v1 :: us, .cons h r => by
    unfold insK
    rw [rd.2, h.2]
    split
    · exact .cons rd (.cons h r)
    · exact .cons h (insK_rd rd r)
theorem sortK_rd {k : D → Int} {kv : V → Int} : ∀ {ds : List D} {us : List V}, Paired (fun d v => RD K p H d v ∧ k d = kv v) ds us → Paired (fun d v => RD K p H d v ∧ k d = kv v) (sortK k ds) (sortK kv us)
  | _, _, .nil => .nil
  | _, _, .cons h r => insK_rd h (sortK_rd r)
theorem rds_of {k : D → Int} {kv : V → Int} : ∀ {ds : List D} {us : List V}, Paired (fun d v => RD K p H d v ∧ k d = kv v) ds us → RDs K p H ds us
  | _, _, .nil => .nil
  | _, _, .cons h r => .cons h.1 (rds_of r)
theorem keys_of {k : D → Int} {kv : V → Int} : ∀ {ds : List D} {us : List V}, Paired (fun d v => RD K p H d v ∧ k d = kv v) ds us → us.map kv = ds.map k
  | _, _, .nil => rfl
  | _, _, .cons h r => by simp [h.2, keys_of r]
theorem fsts_map : ∀ {ds : List D} {is : List Int}, fsts ds = some is → ds.map keyP = is ∧ ∀ d ∈ ds, ∃ i y, d = .tup [.int i, y]
  | [], is, e => by simp only [fsts] at e; cases e; simp
  | d :: ds, is, e => by
    simp only [fsts, Option.bind_eq_some_iff, Option.map_eq_some_iff] at e
    obtain ⟨i, h1, is', h2, rfl⟩ := e
    obtain ⟨q1, q2⟩ := fsts_map h2
    refine ⟨by simp [keyP, h1, q1], fun d' hd => ?_⟩
    rcases List.mem_cons.mp hd with rfl | hd
    · unfold fstD at h1
      split at h1
      · exact ⟨_, _, rfl⟩
      · cases h1
    · exact q2 d' hd
theorem nodup_inj {α β : Type} {f : α → β} : ∀ {l : List α}, (l.map f).Nodup → ∀ x ∈ l, ∀ y ∈ l, f x = f y → x = y
  | [], _, x, hx, _, _, _ => by cases hx
  | z :: l, n, x, hx, y, hy, e => by
    simp only [List.map_cons, List.nodup_cons] at n
    rcases List.mem_cons.mp hx with hx1 | hx1
    · rcases List.mem_cons.mp hy with hy1 | hy1
      · rw [hx1, hy1]
      · exact absurd (List.mem_map.mpr ⟨y, hy1, by rw [← e, hx1]⟩) n.1
    · rcases List.mem_cons.mp hy with hy1 | hy1
      · exact absurd (List.mem_map.mpr ⟨x, hx1, by rw [e, hy1]⟩) n.1
      · exact nodup_inj n.2 x hx1 y hy1 e
end
/-- the first of what stands at a pair's place -/
def fstV (h : Heap) : V → Int
  | .ref a => SrtK.fst h (.ref a)
  | _ => 0
theorem ca_sortedP {X : Cx} : CallFL X (.builtin "sorted") gSortedP := by
  intro pins s σ H vs us Q I r h
  obtain ⟨p, st, ds, ws, hs, rds, hg, q⟩ := h
  unfold gSortedP at hg
  split at hg
  · rename_i n
    split at hg
    · rename_i xs e1
      simp only [Option.bind_eq_some_iff] at hg
      obtain ⟨is, hf, hg⟩ := hg
      split at hg
      · rename_i hnd
        cases hg
        obtain ⟨v, rfl, rd⟩ := one_rd rds
        obtain ⟨a, zs, rfl, ha, rz, _⟩ := lst_rd hs rd e1
        obtain ⟨hm, hall⟩ := fsts_map hf
        obtain ⟨its, rv, hl, hz⟩ := I.list (SqL.of ha)
        obtain ⟨u, rfl, ru⟩ := vals1 r
        obtain rfl : u = Value.ref a := ru
        have each : ∀ d ∈ xs, ∀ v, RD X.K p H d v → ∃ t, v = .ref t ∧ SrtK.IsP s.heap (.ref t) (keyP d) := fun d hd v rv => by
          obtain ⟨i, y, rfl⟩ := hall d hd
          cases rv with
          | tup ht rt =>
            obtain ⟨v1, v2, rfl, r1, _⟩ := two_rd rt
            cases r1
            obtain ⟨its, r3, ⟨o, ho, hc, n, hd⟩, _⟩ := I.tuple ht
            obtain ⟨u1, u2, rfl, ri, rj⟩ := vals2 r3
            obtain ⟨t1, rfl⟩ := ri
            exact ⟨_, rfl, _, o, t1, u2, n, rfl, ho, hc, hd⟩
        have hpair : ∀ {ds : List D} {ws : List V}, (∀ d ∈ ds, d ∈ xs) → RDs X.K p H ds ws → Paired (fun d v => RD X.K p H d v ∧ keyP d = fstV s.heap v) ds ws := by
          intro ds ws hmem r
          induction ds generalizing ws with
          | nil => cases r; exact .nil
          | cons d ds ih =>
            cases r with
            | cons h r =>
              obtain ⟨t, rfl, hp⟩ := each d (hmem d List.mem_cons_self) _ h
              exact .cons ⟨h, hp.fst.symm⟩ (ih (fun d hd => hmem d (List.mem_cons_of_mem _ hd)) r)
        have hP := hpair (fun d hd => hd) rz
        have hzk := keys_of hP
        rw [hm] at hzk
        have href : ∀ x ∈ zs, ∃ t, x = V.ref t := fun x hx => by
          obtain ⟨i, hi⟩ := List.mem_iff_getElem?.mp hx
          have hlen := rz.length
          have hi2 : i < xs.length := by rw [hlen]; exact (List.getElem?_eq_some_iff.mp hi).1
          obtain ⟨v, hv, rv⟩ := rz.get (List.getElem?_eq_getElem hi2)
          rw [hi] at hv; cases hv
          obtain ⟨t, e, _⟩ := each _ (List.getElem_mem hi2) _ rv
          exact ⟨t, e⟩
        obtain ⟨e1, e2⟩ := refs_back rv href
        have hinj : ∀ v ∈ zs, ∀ u ∈ zs, fstV s.heap v = fstV s.heap u → v = u := nodup_inj (by rw [hzk]; exact hnd)
        refine SrtK.sorted_keys (k := SrtK.fst s.heap) hl.isList (by rw [← rv.length]; exact hz) (fun v hv => ?_) (fun v hv u hu ek => ?_) fun h' d out h1 h2 kp hd hn => ?_
        · obtain ⟨t, rfl⟩ := e2 v hv
          have hmz : V.ref t ∈ zs := by rw [e1]; exact List.mem_map.mpr ⟨_, hv, rfl⟩
          obtain ⟨i, hi⟩ := List.mem_iff_getElem?.mp hmz
          have hi2 : i < xs.length := by rw [rz.length]; exact (List.getElem?_eq_some_iff.mp hi).1
          obtain ⟨w', hv', rv'⟩ := rz.get (List.getElem?_eq_getElem hi2)
          rw [hi] at hv'; cases hv'
          obtain ⟨t', e, hp⟩ := each _ (List.getElem_mem hi2) _ rv'
          cases e
          have := hp.fst
          rw [this]
          exact hp
        · obtain ⟨t, rfl⟩ := e2 v hv
          obtain ⟨t', rfl⟩ := e2 u hu
          have m1 : V.ref t ∈ zs := by rw [e1]; exact List.mem_map.mpr ⟨_, hv, rfl⟩
          have m2 : V.ref t' ∈ zs := by rw [e1]; exact List.mem_map.mpr ⟨_, hu, rfl⟩
          have := hinj _ m1 _ m2 ek
          cases this
          rfl
        · have h3 : ∀ u ∈ out, ∃ a, u = Value.ref a := fun u hu => e2 u (h2.mem_iff.mp hu)
          obtain ⟨n, hn⟩ := hn
          have hb : (out.map backV).Perm zs := by rw [e1]; exact h2.map _
          have hsr : (out.map backV).Pairwise (fun a b => fstV s.heap a ≤ fstV s.heap b) := by
            refine List.pairwise_map.mpr (h1.imp_of_mem fun {x y} hx hy hlt => ?_)
            obtain ⟨t, rfl⟩ := h3 x hx
            obtain ⟨t', rfl⟩ := h3 y hy
            exact Int.not_lt.mp (of_decide_eq_false hlt)
          have hu := sortK_uniq hinj hb hsr
          refine ⟨.ref d, upd H d (.lst (out.map backV)), I.laid (t' := s.toks) kp hd ⟨by rw [hb.length_eq]; exact hz, out, n, vals_back h3, hn⟩, rfl, q _ _ (I.hok.fresh hd) ?_⟩
          rw [hu]
          exact rds_of (sortK_rd hP)
      · cases hg
    · cases hg
  · cases hg
end DL
namespace DL
open PySem PySem.Spec L2
open PyProof.Rows hiding St
variable [Tbs]
def gSrt : GL := fun ds s => match gSorted ds s with
  | some x => some x
  | none => gSortedP ds s
theorem ca_srt {X : Cx} (hc : X.calm = true) : CallFL X (.builtin "sorted") gSrt := CallR.imp ((ca_sorted hc).or ca_sortedP) fun vs H Q ⟨p, s, ds, us, hs, rds, hg, q⟩ => by
  unfold gSrt at hg
  split at hg
  · rename_i x hx
    cases hg
    exact .inl ⟨p, s, ds, _, hs, rds, hx, q⟩
  · exact .inr ⟨p, s, ds, us, hs, rds, hg, q⟩
end DL
end
/-! ### DL14 -/
section
set_option linter.all false
set_option maxRecDepth 100000
/-! DL14: dict displays; in; three stores. -/
namespace DL
open PySem PySem.Spec L2
open PyProof.Rows hiding St
variable [Tbs]
abbrev trsOf (K : PySem.W.Frag) (W : WX) (l : List (ME × ME)) : List (TE × TE) := l.map fun kv => (tE K W kv.1, tE K W kv.2)
abbrev DPs (X : Cx) (W : WX) (pos : Pos) (keys : List (Option Expr)) (values : List Expr) (l : List (ME × ME)) : Prop := PPs X pos keys values (trsOf X.K W l)
abbrev RPs (K : PySem.W.Frag) (p : List Addr) (H : Hp) : List (D × D) → List (V × V) → Prop := Paired fun a b => RD K p H a.1 b.1 ∧ RD K p H a.2 b.2
theorem upd_del2 {H : Hp} {a : Addr} {o : HO} : upd (del H a) a o = upd H a o := by
  funext b
  by_cases h : b = a
  · rw [h, upd_same, upd_same]
  · rw [upd_ne h, upd_ne h, del_ne h]
theorem pR.bindAt {α β : Type} {K : PySem.W.Frag} {W : WX} {p p1 : List Addr} {H H1 : Hp} {t : L2.St} {r : R α} {f : α → Sto → R β} {k : List Addr → Hp → β → Sto → Prop} (e : Ex p H p1 H1) (h : pR K W t p H (r.bind f) k) :
    pR K W t p1 H1 r (fun _ _ a s => pR K W t p H (f a s) k) := by
  cases r with
  | ok a s => exact fun _ _ _ _ => h
  | exc x s => exact pR.mono (r := (R.exc x s : R β)) (k := k) e h
  | bad => exact h
section
variable {X : Cx} {W : WX} {pos : Pos}
theorem dps_nil : DPs X W pos [] [] [] := pps_nil
theorem dps_cons {k v : Expr} {ks : List (Option Expr)} {vs : List Expr} {mk mv : ME} {l : List (ME × ME)} (hk : DE X W k mk) (hv : DE X W v mv) (hr : DPs X W pos ks vs l) : DPs X W pos (some k :: ks) (v :: vs) ((mk, mv) :: l) := pps_cons hk hv hr
theorem ents_read {K : PySem.W.Frag} : ∀ {l : List (ME × ME)} {t : L2.St} {H : Hp} {p : List Addr} {r : Env} {s : Sto} {k : List Addr → Hp → List (D × D) → Sto → Prop} {Q : List (V × V) → Hp → Prop},
    RE K p H r t → RS K p s H → pR K W t p H (mEnts l r s) k → (∀ p' H' ps s' vs, Ex p H p' H' → RS K p' s' H' → k p' H' ps s' → RPs K p' H' ps vs → Q vs H') → tPairs (trsOf K W l) t H Q
  | [], t, H, p, r, s, k, Q, he, hs, h, f => by
    simp only [mEnts] at h
    exact f p H [] s [] .refl hs (h p H .refl hs) .nil
  | (mk, mv) :: l, t, H, p, r, s, k, Q, he, hs, h, f => by
    simp only [mEnts] at h
    show tE K W mk t H _
    refine tE.stepK he hs h fun p1 H1 d v s1 e1 r1 he1 rd q1 => ?_
    show tE K W mv t H1 _
    refine tE.stepK he1 r1 q1 fun p2 H2 d2 v2 s2 e2 r2 he2 rd2 q2 => ?_
    refine ents_read he2 r2 (pR.bind q2) fun p3 H3 ps s3 vs e3 r3 q3 rp => ?_
    exact f p3 H3 _ s3 _ ((e1.trans e2).trans e3) r3 (q3 p3 H3 .refl r3) (.cons ⟨(rd.mono e2).mono e3, rd2.mono e3⟩ rp)
theorem ents_kvs {K : PySem.W.Frag} {p : List Addr} {H : Hp} : ∀ {ps : List (D × D)} {vs : List (V × V)} {kvs : List (Key × D)}, RPs K p H ps vs → entsOf ps = some kvs →
    ∃ ws : List (Key × V), vs = ws.map (fun kv => (kV kv.1, kv.2)) ∧ RF K p H kvs ws
  | [], _, kvs, .nil, e => by simp only [entsOf] at e; cases e; exact ⟨[], rfl, .nil⟩
  | (k, v) :: ps, (q1, q2) :: qs, kvs, .cons h r, e => by
    simp only [entsOf, Option.bind_eq_some_iff, Option.map_eq_some_iff] at e
    obtain ⟨k', hk, kvs', hl, rfl⟩ := e
    obtain ⟨ws, rfl, rw'⟩ := ents_kvs r hl
    have := keyD_rd h.1 hk
    dsimp only at this
    subst this
    exact ⟨(k', q2) :: ws, rfl, .cons ⟨rfl, h.2⟩ rw'⟩
theorem merge_rd {K : PySem.W.Frag} {p : List Addr} {H : Hp} : ∀ {kvs : List (Key × D)} {ws : List (Key × V)} {acc : List (Key × D)} {bcc : List (Key × V)}, RF K p H kvs ws → RF K p H acc bcc →
    RF K p H (kvs.foldl (fun acc kv => dPut acc kv.1 kv.2) acc) (ws.foldl (fun acc kv => putK acc kv.1 kv.2) bcc)
  | _, _, _, _, .nil, ra => ra
  | (k1, d1) :: kvs, (k2, d2) :: ws, _, _, .cons h r, ra => by
    obtain ⟨h1, h2⟩ := h
    dsimp only at h1 h2
    subst h1
    simp only [List.foldl_cons]
    exact merge_rd r (dPut_rd h2 ra)
theorem dk_disp {keys : List (Option Expr)} {values : List Expr} {l : List (ME × ME)} (h : DPs X W pos keys values l) (h0 : keys ≠ [] := by intro e; cases e) (hall : keys.all (·.isSome) = true := by rfl) (hl : keys.length = values.length := by rfl)
    (h15 : keys.length ≤ 15 := by decide) : DDk X W (.Dict keys values pos) (mDisp l) := PE.imp (pe_disp h hall hl h0 h15) fun t H Q ⟨p, r, s, he, hs, q⟩ => by
  intro a ha
  have ex0 : Ex p H p (upd H a (.dK [])) := ex_new0 ha
  have hpa : a ∉ p := hs.fresh ha
  refine ents_read (he.mono ex0) (hs.beside ha) (pR.bindAt ex0 q) fun p1 H1 ps s1 vs e1 r1 q1 rp => ?_
  have hH : H1 a = some (.dK []) := e1.fr a _ upd_same hpa trivial
  refine ⟨hH, ?_⟩
  split at q1
  · rename_i kvs hk
    split at q1
    · rename_i hlen
      obtain ⟨ws, rfl, rf⟩ := ents_kvs rp hk
      refine ⟨ws, rfl, by rw [← rf.length]; exact hlen, ?_⟩
      have hap1 : a ∉ p1 := fun hm => e1.nw a hm hpa _ upd_same trivial
      have hm := merge_rd rf (.nil : RF X.K p1 H1 [] [])
      have := q1 p1 (del H1 a) ((ex0.trans e1).del ha hH trivial) (r1.del hH trivial hap1) a (mergeK [] ws) del_same (hm.mono0 (ex0_del hH trivial))
      rw [upd_del2] at this
      exact this
    · exact q1.elim
  · exact q1.elim
end
end DL
end
/-! ### DL15 -/
section
set_option linter.all false
set_option maxRecDepth 100000
/-! DL15: x[::-1]; two places of lists changed at once; small facts. -/
namespace Rvs
open PySem PySem.Spec L2
open PyProof.Rows hiding St
open HT
section
variable {prog : Program} {w : World} {A : Around} {E : Value → Shared → Prop} {s : Shared}
end
end Rvs
namespace DL
open PySem PySem.Spec L2
open PyProof.Rows hiding St
variable [Tbs]
theorem hu64_of {A : Around} {k : Nat} (hr : Room k A) : A.units + 64 < cLine := by
  have := hr.un
  omega
/-- t[::-1] -/
def mRev (m : ME) : ME := fun r s => (m r s).bind fun d s1 => match d with
  | .tup ds => .ok (.tup ds.reverse) s1
  | _ => .bad
end DL
end
/-! ### DL16 -/
section
set_option linter.all false
set_option maxRecDepth 100000
/-! DL16: two places changed at once; which built-ins there are. -/
namespace DL
open PySem PySem.Spec L2
open PyProof.Rows hiding St
variable [Tbs]
theorem bt_len : bootBuiltins "len" = some (.builtin "len") := by decide +kernel
theorem bt_all : bootBuiltins "all" = some (.builtin "all") := by decide +kernel
theorem bt_abs : bootBuiltins "abs" = some (.builtin "abs") := by decide +kernel
theorem bt_isinstance : bootBuiltins "isinstance" = some (.builtin "isinstance") := by decide +kernel
theorem bt_sorted : bootBuiltins "sorted" = some (.builtin "sorted") := by decide +kernel
theorem bt_int : bootBuiltins "int" = some (.type "int") := by decide +kernel
theorem bt_bool : bootBuiltins "bool" = some (.type "bool") := by decide +kernel
theorem bt_tuple : bootBuiltins "tuple" = some (.type "tuple") := by decide +kernel
theorem bt_list : bootBuiltins "list" = some (.type "list") := by decide +kernel
theorem bt_dict : bootBuiltins "dict" = some (.type "dict") := by decide +kernel
/-- d into o[i] -/
def mPut (mo mi : ME) (d : D) (r : Env) (s : Sto) : R Unit := match mo r s with
  | .ok o s2 => (match mi r s2 with
    | .ok i s3 => (match gSet o i d s3 with
      | some s4 => .ok () s4
      | none => .bad)
    | _ => .bad)
  | _ => .bad
/-- o[i], u[j] = a, b -/
def mSwap (ma : MA) (o i u j : ME) : MS := fun r s => match ma r s with
  | .ok ds s1 => (match ds with
    | [a, b] => (match mPut o i a r s1 with
      | .ok _ s2 => (match mPut u j b r s2 with
        | .ok _ s3 => .nx r s3
        | _ => .bad)
      | _ => .bad)
    | _ => .bad)
  | .exc e s1 => .exc e r s1
  | .bad => .bad
section
variable {X : Cx} {W : WX} {mo mi : ME}
end
end DL
end
/-! ### DL17 -/
section
set_option linter.all false
set_option maxRecDepth 100000
/-! DL17: comparisons as tests. -/
namespace DL
open PySem PySem.Spec L2
open PyProof.Rows hiding St
variable [Tbs]
section
variable {X : Cx} {W : WX} {pos : Pos} {a b c : Expr} {m n o : ME} {g g' : G2}
theorem asB_read {K : PySem.W.Frag} {m : ME} {t : L2.St} {H : Hp} {Q : Bool → Hp → Prop} (q : tT K W (asB m) t H Q) : tE K W m t H (fun x H' => ∃ k, x = .bl k ∧ Q k H') := by
  obtain ⟨p, r, s, he, hs, q⟩ := q
  refine ⟨p, r, s, he, hs, (pR.bind q).imp fun p1 H1 d s1 e1 r1 q1 v rd => ?_⟩
  cases rd with
  | bl k => exact ⟨k, rfl, q1 p1 H1 .refl r1⟩
  | _ => exact (show False from q1).elim
theorem dt_cmp {op : CmpOp} (ho : OpD X (compareOp op) g) (ha : DE X W a m) (hb : DE X W b n) (hm : behindInMarks op b = false) : DT X W (.Compare a [op] [b] pos) (asB (mBin g m n)) := PT.imp (pt_cmpR ho ha hb hm) fun _ _ _ q => tOp_of (asB_read q)
end
end DL
end
/-! ### DL18 -/
section
set_option linter.all false
set_option maxRecDepth 100000
/-! DL18: the script. -/
namespace DL
open PySem PySem.Spec L2
open PyProof.Rows hiding St
variable [Tbs]
/-- in the slot 0 stands the script -/
def Sc (K : PySem.W.Frag) (ns : List Int) (t : L2.St) (H : Hp) : Prop := ∃ a, t[0]? = some (some (.ref a)) ∧ SqL K H a (ns.map V.int)
/-- a def of the script: its promise -/
def spS (K : PySem.W.Frag) (m : List Int → MF) : Sp := fun vs H Q E => ∃ a ns p s, vs = [.ref a] ∧ ns.length ≤ 63 ∧ SqL K H a (ns.map V.int) ∧ RS K p s H ∧ pF K p H (m ns [.con (.ref a)] s) Q E
abbrev FnS (P : Program) (w : World) (K : PySem.W.Frag) (mg : Str → Option Value) (base : Heap) (k : Nat) (f : Addr) (fd : FuncData) (ps : List Str) (m : List Int → MF) : Prop := FnOk P w K mg base (L2.CX P w) k f fd ps (spS K m)
def Ks (P : Program) (w : World) (K : PySem.W.Frag) (mg : Str → Option Value) (base : Heap) (x : Str) (k : Nat) (ps : List Str) (m : List Int → MF) : Prop :=
  ∃ f fd, mg x = some (.ref f) ∧ PySem.W.keepIn K (.ref f) = true ∧ Binds K fd ps [] ∧ FnS P w K mg base k f fd ps m
def mI_scr (ns : List Int) : MI := fun _ s => .ok (ns.map .int, [(s.length, .lst (ns.map .int))]) (s ++ [.lst (ns.map .int)])
theorem cut63 {xs : List V} (h : xs.length ≤ 63) : cutV xs none (some 63) = xs := by
  unfold cutV
  have e1 : HT.sIx xs.length 0 none = 0 := rfl
  have e2 : HT.sIx xs.length xs.length (some 63) = min 63 xs.length := HT.sIx_nat xs.length xs.length 63
  rw [e1, e2, Nat.min_eq_right h]
  simp
section
variable {X : Cx} {W : WX} {pos : Pos} {ns : List Int}
/-- script[:63] -/
theorem pi_scr {tg e : Expr} {p2 p3 : Pos} {kk : Nat} (hl : ns.length ≤ 63) (he : PE X e (tVar 0)) : PI X tg (.Subscript e (.Slice none (some (.Constant (.int 63) kk p3)) none p2) pos) (fun t H Q => Sc X.K ns t H ∧ iD X.K W (mI_scr ns) t H Q) :=
  PI.imp (pi_list (pe_slice (sl_list (X := X)) he po_none (po_some pe_int))) fun t H Q ⟨⟨a, h0, hs⟩, p, r, s, hre, hrs, q⟩ => by
    have hcut : cutV (ns.map V.int) none (some 63) = ns.map V.int := cut63 (by simpa using hl)
    refine ⟨_, h0, ?_⟩
    refine ⟨_, rfl, a, ns.map V.int, rfl, hs, fun l hl => ?_⟩
    rw [hcut]
    have hx := ex_new (p := p) (o := .lst (ns.map V.int)) hl
    have h2 : RS X.K (p ++ [l]) (s ++ [.lst (ns.map .int)]) (upd H l (.lst (ns.map V.int))) := hrs.push hl (.lst (RDs.of_ints ns))
    refine ⟨l, rfl, ⟨_, SqL.of upd_same⟩, q _ _ hx h2 _ (str_lst (by rw [← hrs.len]; simp))⟩
/-- the rest behind a statement that reads the script -/
theorem pss_scr {st : Stmt} {rest : List Stmt} {m u : MS} (h : PS X st (fun Z t H => Sc X.K ns t H ∧ tS X.K W m Z t H)) (h2 : DSs X W rest u) : PSs X (st :: rest) (fun Z t H => Sc X.K ns t H ∧ tS X.K W (mSeq m u) Z t H) :=
  PSs.imp (pss_cons h h2) fun Z t H ⟨hsc, p, r, s, he, hs, q⟩ => by
    refine ⟨hsc, p, r, s, he, hs, ?_⟩
    unfold mSeq at q
    cases hq : m r s with
    | nx r1 s1 =>
      rw [hq] at q
      exact fun p' H' t' ex rs re => ⟨p', r1, s1, re, rs, pS.mono ex q⟩
    | rt d s1 => rw [hq] at q; exact q
    | bk r1 s1 => rw [hq] at q; exact q
    | ct r1 s1 => rw [hq] at q; exact q
    | exc e r1 s1 => rw [hq] at q; exact q
    | bad => rw [hq] at q; exact q
/-- name = [.. for .. in script[:63]] -/
theorem ps_setScr {i : Nat} {y : Str} {py : Pos} {elt tg iter : Expr} {ifs : List Expr} {scope : Scope} {own : List (Str × Nat)} {pos spos : Pos} {mi : MI} {g : TG} {mg : MG} {tt : MT} {te : ME} (hc : X.calm = true) (hN : X.N.Nodup) (hy : X.N[i]? = some y) (hyl : X.env.scope.names.lookup y = some .local)
    (hsw : swapsWith (.ListComp elt [⟨tg, iter, ifs, 0⟩] scope pos) (some (.Name y py)) spos.line X.env = pure true) (tk : TgOk X.K g mg (own.map (·.2))) (hi : PI X tg iter (fun t H Q => Sc X.K ns t H ∧ iD X.K W mi t H Q)) (ok : BlkOk X.N X.env.scope scope own)
    (hg : ∀ (s : Shared) (H : Hp) (C : Addr) (cl : List (Str × Addr)) (fp : List Addr), PG (X.blk s H scope (compEnvC scope cl C X.env) fp) tg g) (ht : ∀ (s : Shared) (H : Hp) (C : Addr) (cl : List (Str × Addr)) (fp : List Addr), PTs (X.blk s H scope (compEnvC scope cl C X.env) fp) ifs (tT X.K W0 tt))
    (he : ∀ (s : Shared) (H : Hp) (C : Addr) (cl : List (Str × Addr)) (fp : List Addr), DE (X.blk s H scope (compEnvC scope cl C X.env) fp) W0 elt te) (hs : ∀ x, foldedSetIterable iter X.env x = pure x := by intro _; rfl) :
    PS X (.Assign [.Name y py] (.ListComp elt [⟨tg, iter, ifs, 0⟩] scope pos) spos) (fun Z t H => Sc X.K ns t H ∧ tS X.K W (mAsg (mNew (mLc mi mg tt te (own.map (·.2)))) (mgName i)) Z t H) :=
  PS.imp (ps_setLc (te := tE X.K W0 te) (tt := tT X.K W0 tt) hc hN hy hyl hsw hi ok hg ht he hs) fun Z t H ⟨hsc, q⟩ => by
    have q2 := tAsg_of (vs := [i]) (g := gName i) (tg_name (by simp)) q
    obtain ⟨p, r, s, he, hs, q2⟩ := q2
    have q4 : tLc (iD X.K W mi) g (tT X.K W0 tt) (tE X.K W0 te) (own.map (·.2)) t H (fun x H1 => gName i x t H1 Z.nx) := lc_read tk ⟨p, r, s, he, hs, (pR.bind q2).imp fun p1 H1 ds s1 e1 r1 q3 a vs ha rds =>
      q3 (p1 ++ [a]) _ (ex_new ha) (r1.push ha (.lst (rds.mono (ex_new ha)))) _ (.loc (by rw [← r1.len]; simp))⟩
    exact ⟨hsc, q4⟩
/-- f(script), the script in slot 0 -/
def mCallS (f : MF) : ME := fun r s => match r[0]? with
  | some (some (D.con v)) => f [D.con v] s
  | _ => .bad
/-- name = f(script) -/
theorem ps_setCallScr {i k j : Nat} {y x z : Str} {py p1 p2 p3 spos : Pos} {ps : List Str} {m : List Int → MF} (h63 : ns.length ≤ 63) (h : Ks X.prog X.w X.K X.mg X.base x k ps m) (hr : Room j X.A) (hj : k ≤ j) (tk : Takes X W) (hg : Gl X x) (he : PE X (.Name z p2) (tVar 0)) (hN : X.N.Nodup) (hy : X.N[i]? = some y) (hyl : Loc X.env.scope y)
    (hs : swapsWith (.Call (.Name x p1) [.Name z p2] [] p3) (some (.Name y py)) spos.line X.env = pure false := by rfl)
    (hf : X.fn y = true ∨ X.env.scope.names.lookup y = some .local := by first | exact .inl rfl | exact .inr rfl | assumption)
    (hdb : (x == ("__debug__" : Str)) = false := by decide) (hst : starEach (.Name z p2 :: []) X.env = (false, eval (.Name z p2) X.env) :: starEach [] X.env := by rfl) (hpl : (backTo p3 (starEach [] X.env)).any (·.1) = false := by rfl) :
    PS X (.Assign [.Name y py] (.Call (.Name x p1) [.Name z p2] [] p3) spos) (fun Z t H => Sc X.K ns t H ∧ tS X.K W (mAsg (mCallS (m ns)) (mgName i)) Z t H) := by
  obtain ⟨f, fd, h1, h2, h3, h4⟩ := h
  refine PS.imp (ps_set hN hy hyl (pe_callS (E := WE W) h4 (hr.mono hj) hg h1 h2 h3 (fun σ => passAt tk σ) (pa_cons he pa_nil hst) hdb hst hpl) hs hf) fun Z t H ⟨⟨a, ha, hsq⟩, q⟩ => ?_
  have q2 := tAsg_of (vs := [i]) (g := gName i) (tg_name (by simp)) q
  obtain ⟨p, r, s, he, hs, q2⟩ := q2
  refine ⟨_, ha, ?_⟩
  unfold mCallS at q2
  split at q2
  · rename_i v hv
    obtain ⟨v', e1, e2⟩ := he.at_ 0 _ hv
    rw [ha] at e1
    cases e1
    cases e2
    exact ⟨a, ns, p, s, rfl, h63, hsq, hs, pF_of q2⟩
  · exact q2.elim
end
/-- a def of the script by its body -/
theorem fnS_D {P : Program} {w : World} {K : PySem.W.Frag} {mg : Str → Option Value} {base : Heap} {x qual : Str} {st : Stmt} {f : Addr} {fd : FuncData} {N ps : List Str} {k : Nat} {mb : List Int → MS} (F : Fun K x qual st f fd) (S : FnScope N ps (defScope st)) (h1 : ps.length = 1)
    (hb : ∀ (ns : List Int), ns.length ≤ 63 → ∀ (cdv : Value) (A : Around) (outer : List PySem.Env) (s : Shared) (H : Hp) (E : XK), Room k (A.deeper (envOfC qual (defScope st) s.heap.objs.size f cdv)) →
      PSs (cxOf (L2.CX P w) P w K mg base N qual (defScope st) f cdv A outer s H E) (defBody st) (fun Z t H' => Sc K ns t H' ∧ tS K (fun c d _ H => E c d H) (mb ns) Z t H')) : FnS P w K mg base (k + 1) f fd ps (fun ns => mDef N.length ps.length (mb ns)) := by
  refine F.okX S (fun vs H Q E h => ?_) (fun cdv A outer s H vs Q E hr h => ?_)
  · obtain ⟨a, ns, p, s, rfl, _⟩ := h
    rw [h1]; rfl
  · obtain ⟨a, ns, p, st', rfl, h63, hsq, hs, q⟩ := h
    refine ⟨_, hb ns h63 cdv A outer s H E hr, ⟨a, ?_, hsq⟩, ?_⟩
    · unfold L2.start
      rfl
    · have r : RDs K p H [.con (.ref a)] [V.ref a] := .cons (.con _) .nil
      refine ⟨p, _, st', re_start r N, hs, ?_⟩
      unfold mDef at q
      dsimp only at q
      rw [if_pos (by rw [h1]; rfl)] at q
      rw [h1] at q
      show pS K _ _ p H (mb ns ([D.con (.ref a)].map some ++ List.replicate (N.length - 1) none) st')
      cases hq : mb ns ([D.con (.ref a)].map some ++ List.replicate (N.length - 1) none) st' with
      | nx r1 s1 => rw [hq] at q; exact fun p' H' t ex rs re => q p' H' .non ex rs .non
      | rt d s1 => rw [hq] at q; exact fun p' H' v ex rs rd => q p' H' v ex rs rd
      | exc e r1 s1 => rw [hq] at q; exact fun p' H' t d ex rs re rx => q p' H' d ex rs rx
      | bk _ _ => rw [hq] at q; exact q.elim
      | ct _ _ => rw [hq] at q; exact q.elim
      | bad => rw [hq] at q; exact q.elim
end DL
end
/-! ### DL19 -/
section
set_option linter.all false
set_option maxRecDepth 100000
/-! DL19: words for the end. -/
namespace DL
open PySem PySem.Spec L2
open PyProof.Rows hiding St
variable [Tbs]
theorem plain_nil {K : PySem.W.Frag} {f : Str} : Plain K [] f := fun C h => by cases h
theorem plain_cons {K : PySem.W.Frag} {C : Addr} {cs : List Addr} {f : Str} (h1 : Cls K C) (h2 : NoAttr K C f) (h : Plain K cs f) : Plain K (C :: cs) f := fun D hd => by
  rcases List.mem_cons.mp hd with rfl | hd
  · exact ⟨h1, h2⟩
  · exact h D hd
theorem rs_nilT {K : PySem.W.Frag} {H : Hp} (h : ∀ x ∈ Tbs.T, H x.1 = some (.tbl #[])) (hC : Tbs.C = [] := by rfl) (hp : Tbs.p0 = [] := by rfl) (hH : ∀ a, Tbs.H0 a = none := by intro a; rfl) : RS K [] [] H := ⟨rfl, .nil, fun n ob a e => by simp at e, fun x hx => LamX.TabS.nil (h x hx), fun x hx => by (rw [hC] at hx; cases hx), ⟨⟨[], by rw [hp]; rfl⟩, fun a xs r => by
    rcases r with r | ⟨o, r⟩ <;> (rw [hH] at r; cases r)⟩⟩
theorem cx_none {P : Program} {w : World} {H : Hp} {s s' : Shared} {e : Value} (h : L2.CX P w [] H s (fun _ _ _ => False) e s') : False := by
  obtain ⟨_, _, _, _, _, _, _, _, _, _, _, _, h⟩ := h
  exact h
theorem pf_true {K : PySem.W.Frag} {H : Hp} {r : R D} {s : Sto} {Q : VK} {E : XK} (hs : r = .ok (.bl true) s) (q : ∀ H2, Q (.bl true) H2) : pF K [] H r Q E := by
  rw [hs]
  intro p' H' v ex rs rd
  cases rd
  exact q H'
end DL
namespace DL
open PySem PySem.Spec L2
open PyProof.Rows hiding St
end DL
end
/-! ### DL20 -/
section
set_option linter.all false
set_option maxRecDepth 100000
set_option maxHeartbeats 4000000
/-! DL20: sets of whole numbers, sorted; in, not in; any and all by truth. -/
namespace DL
open PySem PySem.Spec L2
open PyProof.Rows hiding St
variable [Tbs]
section
variable {P : Program} {w : World} {A : Around} {E : Value → Shared → Prop} {s : Shared}
end
/-! ### strictly ascending lists -/
theorem strict_ext : ∀ {l m : List Int}, l.Pairwise (· < ·) → m.Pairwise (· < ·) → (∀ k, k ∈ l ↔ k ∈ m) → l = m
  | [], [], _, _, _ => rfl
  | [], y :: m, _, _, h => absurd ((h y).mpr List.mem_cons_self) (by simp)
  | x :: l, [], _, _, h => absurd ((h x).mp List.mem_cons_self) (by simp)
  | x :: l, y :: m, h1, h2, h => by
    have a := List.pairwise_cons.mp h1
    have b := List.pairwise_cons.mp h2
    have e : x = y := by
      rcases List.mem_cons.mp ((h x).mp List.mem_cons_self) with e | e
      · exact e
      · rcases List.mem_cons.mp ((h y).mpr List.mem_cons_self) with e2 | e2
        · exact e2.symm
        · have := a.1 y e2
          have := b.1 x e
          omega
    subst e
    rw [strict_ext a.2 b.2 fun k => ?_]
    constructor
    · intro hk
      rcases List.mem_cons.mp ((h k).mp (List.mem_cons_of_mem _ hk)) with e | e
      · have := a.1 k hk
        omega
      · exact e
    · intro hk
      rcases List.mem_cons.mp ((h k).mpr (List.mem_cons_of_mem _ hk)) with e | e
      · have := b.1 k hk
        omega
      · exact e
/-! ### sorted(set(..)) -/
theorem itS_rd {K : PySem.W.Frag} {p : List Addr} {H : Hp} {s : Sto} {d : D} {v : V} {xs : List D} (hs : RS K p s H) (r : RD K p H d v) (h : itS s d = some xs) : ∃ a us, v = .ref a ∧ (SqL K H a us ∨ SqT K H a us) ∧ RDs K p H xs us := by
  cases d with
  | tup ds =>
    cases h
    cases r with
    | tup h1 r1 => exact ⟨_, _, rfl, .inr h1, r1⟩
  | loc n =>
    obtain ⟨a, us, e, h1, h2⟩ := itL_rd hs r h
    exact ⟨a, us, e, .inl (SqL.of h1), h2⟩
  | _ => cases h
end DL
end
/-! ### DL21 -/
section
set_option linter.all false
set_option maxRecDepth 100000
set_option maxHeartbeats 4000000
/-! DL21: in, not in; any, all over what stands. -/
namespace DL
open PySem PySem.Spec L2
open PyProof.Rows hiding St
variable [Tbs]
/-! ### in -/
def flatD : D → Bool
  | .non => true
  | .bl _ => true
  | .int _ => true
  | .str _ => true
  | _ => false
def eqF : D → D → Bool
  | .non, .non => true
  | .bl a, .bl b => a == b
  | .bl a, .int b => (if a then 1 else 0) == b
  | .int a, .bl b => a == (if b then 1 else 0)
  | .int a, .int b => a == b
  | .str a, .str b => a == b
  | _, _ => false
def inB (s : Sto) (d e : D) : Option Bool := match itS s e with
  | some ds => if (flatD d && ds.all flatD) = true then some (ds.any fun y => eqF y d) else (match d.py s, e.py s with
    | some z, some (.list zs) => if SeqAt.shaped z = true ∧ SeqAt.shaped (.list zs) = true then some (zs.any fun y => PyData.eqv y z) else none
    | _, _ => none)
  | none => match e with
    | .loc n => (kvsOf s n).bind fun kvs => (keyD d).map fun k => (dGet kvs k).isSome
    | _ => none
def gIn : G2 := fun d e s => (inB s d e).map fun b => (.bl b, s)
def gNotIn : G2 := fun d e s => (inB s d e).map fun b => (.bl (!b), s)
variable {K : PySem.W.Frag} {p : List Addr} {H : Hp} {s : Sto}
theorem flat_rd {d : D} {v : V} (r : RD K p H d v) (h : flatD d = true) : flatV v = true := by
  cases r <;> first | rfl | cases h
theorem flats_rd : ∀ {ds : List D} {vs : List V}, RDs K p H ds vs → ds.all flatD = true → vs.all flatV = true
  | _, _, .nil, _ => rfl
  | _, _, .cons r rs, h => by
    simp only [List.all_cons, Bool.and_eq_true] at h ⊢
    exact ⟨flat_rd r h.1, flats_rd rs h.2⟩
theorem eqF_rd {d e : D} {v u : V} (r : RD K p H d v) (q : RD K p H e u) (h1 : flatD d = true) (h2 : flatD e = true) : eqF d e = eqV v u := by
  cases r <;> first | (cases h1; done) | (cases q <;> first | (cases h2; done) | rfl)
theorem anyF_rd {e : D} {u : V} (q : RD K p H e u) (h2 : flatD e = true) : ∀ {ds : List D} {vs : List V}, RDs K p H ds vs → ds.all flatD = true → (ds.any fun y => eqF y e) = inV u vs
  | _, _, .nil, _ => rfl
  | _, _, .cons r rs, h => by
    simp only [List.all_cons, Bool.and_eq_true] at h
    simp only [inV, List.any_cons]
    rw [eqF_rd r q h.1 h2, anyF_rd q h2 rs h.2]
    rfl
theorem inB_rd {d e : D} {x y : V} {b : Bool} (hs : RS K p s H) (rx : RD K p H d x) (ry : RD K p H e y) (h : inB s d e = some b) :
    (∃ a us, y = .ref a ∧ (SqL K H a us ∨ SqT K H a us) ∧ flatV x = true ∧ us.all flatV = true ∧ b = inV x us) ∨
    (∃ z zs, Dp K H x z ∧ Dp K H y (.list zs) ∧ SeqAt.shaped z = true ∧ SeqAt.shaped (.list zs) = true ∧ b = zs.any fun w => PyData.eqv w z) ∨
    ∃ a o, y = .ref a ∧ DGet H a x o ∧ b = o.isSome := by
  unfold inB at h
  split at h
  · rename_i ds hds
    obtain ⟨a, us, rfl, hq, rr⟩ := itS_rd hs ry hds
    split at h
    · rename_i hf
      cases h
      simp only [Bool.and_eq_true] at hf
      exact .inl ⟨a, us, rfl, hq, flat_rd rx hf.1, flats_rd rr hf.2, anyF_rd rx hf.1 rr hf.2⟩
    · split at h
      · rename_i z zs h1 h2
        split at h
        · rename_i hh
          cases h
          exact .inr (.inl ⟨z, zs, py_dp hs rx h1, py_dp hs ry h2, hh.1, hh.2, rfl⟩)
        · cases h
      · cases h
  · split at h
    · rename_i n _
      simp only [Option.bind_eq_some_iff, Option.map_eq_some_iff] at h
      obtain ⟨kvs, h1, k, h2, rfl⟩ := h
      have e := keyD_rd rx h2
      subst e
      refine .inr (.inr ?_)
      have fin : ∀ {a : Addr} {us : List (Key × V)}, Rd H a (.dK us) → RF K p H kvs us → ∃ a o, V.ref a = .ref a ∧ DGet H a (kV k) o ∧ (dGet kvs k).isSome = o.isSome := fun {a us} hr rf => by
        refine ⟨a, _, rfl, .inl ⟨us, k, hr, rfl, rfl⟩, ?_⟩
        cases hg : dGet kvs k with
        | none => rw [dGet_none rf hg]; rfl
        | some z =>
          obtain ⟨v, hv, _⟩ := dGet_rd rf hg
          rw [hv]
          rfl
      unfold kvsOf at h1
      split at h1
      · rename_i kv2 hk
        cases h1
        obtain ⟨a, us, rfl, ha, rf, _⟩ := dct_rd hs ry hk
        have := fin (a := a) (.inl ha) rf
        refine ⟨a, _, rfl, .inl ⟨us, k, .inl ha, rfl, rfl⟩, ?_⟩
        cases hg : dGet kvs k with
        | none => rw [dGet_none rf hg]; rfl
        | some z =>
          obtain ⟨v, hv, _⟩ := dGet_rd rf hg
          rw [hv]
          rfl
      · rename_i kv2 hk
        cases h1
        obtain ⟨a, o, us, rfl, ha, rf, _⟩ := lok_rd hs ry hk
        refine ⟨a, _, rfl, .inl ⟨us, k, .inr ⟨o, ha⟩, rfl, rfl⟩, ?_⟩
        cases hg : dGet kvs k with
        | none => rw [dGet_none rf hg]; rfl
        | some z =>
          obtain ⟨v, hv, _⟩ := dGet_rd rf hg
          rw [hv]
          rfl
      · cases h1
    · cases h
theorem OpR.or3 {X : Cx} {f : Value → Value → Sem Value} {r1 r2 r3 : R2} (h1 : OpR X f r1) (h2 : OpR X f r2) (h3 : OpR X f r3) : OpR X f (fun x y H Q => r1 x y H Q ∨ r2 x y H Q ∨ r3 x y H Q) := by
  intro pins s σ H x y v u Q I rx ry h
  rcases h with h | h | h
  · exact h1 pins s σ H x y v u Q I rx ry h
  · exact h2 pins s σ H x y v u Q I rx ry h
  · exact h3 pins s σ H x y v u Q I rx ry h
variable {X : Cx}
theorem opr_in_dict (hu : X.A.units + 65 < cLine) : OpR X (compareOp .In) (fun x y H Q => ∃ a o, y = .ref a ∧ DGet H a x o ∧ Q (.bl o.isSome) H) := by
  intro pins s σ H x y v u Q I rx ry ⟨a, o, e, g, q⟩
  subst e
  cases ry
  exact d_in (by omega) I g rx fun s' I' => ⟨.bl _, H, I', rfl, q⟩
theorem opr_notin_dict (hu : X.A.units + 65 < cLine) : OpR X (compareOp .NotIn) (fun x y H Q => ∃ a o, y = .ref a ∧ DGet H a x o ∧ Q (.bl (!o.isSome)) H) := by
  intro pins s σ H x y v u Q I rx ry ⟨a, o, e, g, q⟩
  subst e
  cases ry
  exact d_notIn (by omega) I g rx fun s' I' => ⟨.bl _, H, I', rfl, q⟩
theorem op_inDD (hu : X.A.units + 65 < cLine) : OpD X (compareOp .In) gIn := OpR.imp (OpR.or3 op_in_seq (L2.op_inD hu) (opr_in_dict hu)) fun x y H Q ⟨p, s, d, e, z, s', hs, rx, ry, hg, hf⟩ => by
  simp only [gIn, Option.map_eq_some_iff] at hg
  obtain ⟨b, hb, hz⟩ := hg
  cases hz
  have q := hf.now hs (.bl b)
  rcases inB_rd hs rx ry hb with ⟨a, us, e, h1, h2, h3, h4⟩ | ⟨z, zs, h1, h2, h3, h4, h5⟩ | ⟨a, o, e, h1, h2⟩
  · exact .inl ⟨a, us, e, h1, h2, h3, by rw [if_neg (by decide), ← h4]; exact q⟩
  · exact .inr (.inl ⟨z, zs, h1, h2, h3, h4, by rw [← h5]; exact q⟩)
  · exact .inr (.inr ⟨a, o, e, h1, by rw [← h2]; exact q⟩)
theorem op_notinDD (hu : X.A.units + 65 < cLine) : OpD X (compareOp .NotIn) gNotIn := OpR.imp (OpR.or3 op_notIn_seq (L2.op_notInD hu) (opr_notin_dict hu)) fun x y H Q ⟨p, s, d, e, z, s', hs, rx, ry, hg, hf⟩ => by
  simp only [gNotIn, Option.map_eq_some_iff] at hg
  obtain ⟨b, hb, hz⟩ := hg
  cases hz
  have q := hf.now hs (.bl (!b))
  rcases inB_rd hs rx ry hb with ⟨a, us, e, h1, h2, h3, h4⟩ | ⟨z, zs, h1, h2, h3, h4, h5⟩ | ⟨a, o, e, h1, h2⟩
  · exact .inl ⟨a, us, e, h1, h2, h3, by rw [if_pos rfl, ← h4]; exact q⟩
  · exact .inr (.inl ⟨z, zs, h1, h2, h3, h4, by rw [← h5]; exact q⟩)
  · exact .inr (.inr ⟨a, o, e, h1, by rw [← h2]; exact q⟩)
theorem hu65_of {A : Around} {k : Nat} (hr : Room k A) : A.units + 65 < cLine := by
  have := hr.un
  omega
/-! ### any, all by truth -/
end DL
end
/-! ### DL22 -/
section
set_option linter.all false
set_option maxRecDepth 100000
set_option maxHeartbeats 4000000
/-! DL22: tuple(range(..)), list(range(..)). -/
namespace DL
open PySem PySem.Spec L2
open PyProof.Rows hiding St
variable [Tbs]
def rgD (a b : Int) : List D := (List.range (b - a).toNat).map fun (i : Nat) => D.int (a + i)
def okRg (a b : Int) : Prop := -(2 ^ 62) ≤ a ∧ a < 2 ^ 62 ∧ -(2 ^ 62) ≤ b ∧ b < 2 ^ 62 ∧ (b - a).toNat ≤ 1000000
instance (a b : Int) : Decidable (okRg a b) := by unfold okRg; infer_instance
theorem okRg.ok {a b : Int} (h : okRg a b) : RgOk a b := by
  obtain ⟨h1, h2, h3, h4, h5⟩ := h
  exact ⟨h1, h2, h3, h4, by omega⟩
def mRgs1 (m : ME) : MA := fun r s => (m r s).bind fun d s1 => match d with
  | .int j => if okRg 0 j then .ok (rgD 0 j) s1 else .bad
  | _ => .bad
def mRgs2 (m n : ME) : MA := fun r s => (m r s).bind fun d s1 => (n r s1).bind fun e s2 => match d, e with
  | .int i, .int j => if okRg i j then .ok (rgD i j) s2 else .bad
  | _, _ => .bad
def mTupL (ma : MA) : ME := fun r s => (ma r s).bind fun ds s1 => .ok (.tup ds) s1
variable {X : Cx} {W : WX} {e e2 : Expr} {m n : ME} {p p2 q pos : Pos}
end DL
end
/-! ### DL23 -/
section
set_option linter.all false
set_option maxRecDepth 100000
set_option maxHeartbeats 4000000
/-! DL23: a, b, c = x, y, z. -/
namespace DL
open PySem PySem.Spec L2
open PyProof.Rows hiding St
variable [Tbs]
variable {X : Cx} {W : WX} {pos : Pos}
def mPar3 (i j l : Nat) (ma : MA) : MS := fun r s => match ma r s with
  | .ok [d, e, f] s1 => .nx (((r.set i (some d)).set j (some e)).set l (some f)) s1
  | .ok _ _ => .bad
  | .exc e s1 => .exc e r s1
  | .bad => .bad
end DL
end
/-! ### DL24 -/
section
set_option linter.all false
set_option maxRecDepth 100000
set_option maxHeartbeats 4000000
/-! DL24: sorted(a tuple of whole numbers). -/
namespace SrtO
open PySem PyProof.Rows Srt
section
variable {prog : Program} {w : World} {A : Around} {E : Value → Shared → Prop} {s : Shared}
end
end SrtO
namespace L2
open PySem PySem.Spec PyProof.Rows
end L2
namespace DL
open PySem PySem.Spec L2
open PyProof.Rows hiding St
variable [Tbs]
end DL
end
/-! ### LibM -/
section
set_option linter.all false
set_option maxRecDepth 100000
set_option maxHeartbeats 4000000
namespace DL
open PySem PySem.Spec L2
open PyProof.Rows hiding St
noncomputable def l_law_hand (A : Str → Addr) (ns : List Int) : MF := mDef 3 1 (mSeq (mAsg (mNew (mLc (mI_scr ns) (mgName 2) mYes (mCallB gAbs (mCons (mCallB gInt (mCons (mVar 2) mNil)) mNil)) [2])) (mgName 1)) (mRet (mNew (mLst (mCons (mVar 1) (mCons (mC (.int 0)) (mCons (mC (.int 0)) (mCons (mBin gAdd (mC (.int 1)) (mCallB gLen (mCons (mVar 1) mNil))) (mCons (mC (.int 0)) mNil)))))))))
noncomputable def l_law_draw (A : Str → Addr) : MF := mDef 5 2 (mSeq (mIf (mAnd (asB (mBin gEq (mBin gIx (mVar 0) (mC (.int 2))) (mC (.int 0)))) (asB (mBin gLt (mBin gIx (mVar 0) (mC (.int 1))) (mCallB gLen (mCons (mBin gIx (mVar 0) (mC (.int 0))) mNil))))) (mSeq (mAsg (mBin gIx (mBin gIx (mVar 0) (mC (.int 0))) (mBin gIx (mVar 0) (mC (.int 1)))) (mgName 2)) (mSeq (mSetIx (mBin gAdd (mBin gIx (mVar 0) (mC (.int 1))) (mC (.int 1))) (mVar 0) (mC (.int 1))) (mSeq (mSetIx (mBin gMod (mCallB gInt (mCons (mBin gAdd (mBin gAdd (mBin gMul (mBin gIx (mVar 0) (mC (.int 3))) (mC (.int 69621))) (mVar 2)) (mC (.int 11))) mNil)) (mC (.int 2147483629))) (mVar 0) (mC (.int 3))) (mIf (asB (mBin gGe (mVar 2) (mBin gPow (mC (.int 10)) (mC (.int 18))))) (mSetIx (mVar 2) (mVar 0) (mC (.int 2))) mNext)))) mNext) (mSeq (mIf (asB (mBin gGt (mBin gIx (mVar 0) (mC (.int 2))) (mC (.int 0)))) (mSeq (mAsg (mBin gMod (mCallB gInt (mCons (mBin gIx (mVar 0) (mC (.int 2))) mNil)) (mVar 1)) (mgName 3)) (mSeq (mSetIx (mBin gFdiv (mBin gIx (mVar 0) (mC (.int 2))) (mVar 1)) (mVar 0) (mC (.int 2))) (mRet (mVar 3)))) mNext) (mSeq (mSetIx (mBin gAdd (mBin gIx (mVar 0) (mC (.int 4))) (mC (.int 1))) (mVar 0) (mC (.int 4))) (mSeq (mAsg (mBin gMod (mCallB gInt (mCons (mBin gMul (mCallB gInt (mCons (mBin gAdd (mBin gIx (mVar 0) (mC (.int 3))) (mBin gMul (mC (.int 7919)) (mBin gIx (mVar 0) (mC (.int 4))))) mNil)) (mC (.int 48271))) mNil)) (mC (.int 2147483647))) (mgName 4)) (mSeq (mAsg (mBin gMod (mCallB gInt (mCons (mBin gMul (mVar 4) (mBin gAdd (mBin gFdiv (mVar 4) (mC (.int 1009))) (mC (.int 69621)))) mNil)) (mC (.int 2147483647))) (mgName 4)) (mSeq (mAsg (mBin gMod (mCallB gInt (mCons (mBin gMul (mVar 4) (mBin gAdd (mBin gFdiv (mVar 4) (mC (.int 2003))) (mC (.int 40692)))) mNil)) (mC (.int 2147483399))) (mgName 4)) (mRet (mBin gMod (mCallB gInt (mCons (mBin gFdiv (mVar 4) (mC (.int 16))) mNil)) (mVar 1)))))))))
noncomputable def l_law_any (A : Str → Addr) : MF := mDef 2 2 (mRet (mBin gIx (mVar 1) (mCall (l_law_draw A) (mCons (mVar 0) (mCons (mCallB gLen (mCons (mVar 1) mNil)) mNil)))))
noncomputable def l_is_integer (A : Str → Addr) : MF := mDef 1 1 (mRet (mIfE (asB (mCallB gIsi (mCons (mVar 0) (mCons (mC (.con (.ty "int"))) mNil)))) (ofB (mNot (asB (mCallB gIsi (mCons (mVar 0) (mCons (mC (.con (.ty "bool"))) mNil)))))) (mC (.bl false))))
noncomputable def l_is_within (A : Str → Addr) : MF := mDef 3 3 (mRet (mIfE (asB (mCall (l_is_integer A) (mCons (mVar 0) mNil))) (mChain gLe gLe (mVar 1) (mVar 0) (mVar 2)) (mC (.bl false))))
end DL
end
/-! ### DL25 -/
section
/-! DL25: isinstance with a tuple of built-in types. -/
set_option linter.all false
set_option maxRecDepth 100000
set_option maxHeartbeats 4000000
namespace DL
open PySem PySem.Spec L2
open PyProof.Rows hiding St
variable [Tbs]
def kitsB (t : String) : List D → Option Bool
  | [] => some false
  | .con (.ty n) :: cs => match kitB t n with
    | some true => some true
    | some false => kitsB t cs
    | none => none
  | _ => none
def gIsiTs : GF
  | [d, .tup cs], s => (tyD s d).bind fun t => (kitsB t cs).map fun b => (.bl b, s)
  | _, _ => none
theorem kits_any {K : PySem.W.Frag} {p : List Addr} {H : Hp} {t : String} : ∀ {cs : List D} {b : Bool} {vs : List V} {us : List Value}, kitsB t cs = some b → RDs K p H cs vs → Vals vs us → PySem.W.kitAny K (.type t) us = some b
  | [], _, _, _, h, .nil, .nil => h
  | c :: cs, b, _, _, h, .cons rd rds, .cons (b := u) r rr => by
    cases c with
    | con v =>
      cases v with
      | ty n =>
        cases rd
        have hu : u = .type n := r
        subst hu
        simp only [kitsB] at h
        split at h
        · rename_i hk
          cases h
          exact kitAny_cons (kit_ty hk) (fun e => by cases e) (fun _ => rfl)
        · rename_i hk
          exact kitAny_cons (kit_ty hk) (fun _ => kits_any h rds rr) (fun e => by cases e)
        · cases h
      | _ => simp [kitsB] at h
    | _ => simp [kitsB] at h
theorem ca_isiTs {X : Cx} : CallD X (.builtin "isinstance") gIsiTs := by
  intro pins s σ H vs us Q I r h
  obtain ⟨p, st, ds, z, s', hs, rds, hg, hf⟩ := h
  unfold gIsiTs at hg
  split at hg
  · rename_i d cs
    obtain ⟨v, w, rfl, rd, rd2⟩ := two_rd rds
    simp only [Option.bind_eq_some_iff, Option.map_eq_some_iff] at hg
    obtain ⟨t, ht, b, hb, hq⟩ := hg
    cases hq
    cases rd2 with
    | tup hT rc =>
      obtain ⟨u1, u2, rfl, r1, r2⟩ := vals2 r
      rename_i a ws
      cases (show u2 = Value.ref a from r2)
      obtain ⟨its, rv, ⟨o, ho, hc, n, hd⟩, _⟩ := I.tuple hT
      obtain ⟨P, Z, pp, hx⟩ := kit_of I r1 (tyD_rd hs rd ht)
      obtain ⟨oc, od, dt, sl⟩ := o
      simp only at hc hd
      subst hc hd
      exact PySem.W.kia_tup Z I.kIn pp ho (kits_any hb rc rv) hx fun tk => ⟨.bl b, H, I.tok tk, rfl, hf.now hs (.bl _)⟩
  · cases hg
/-- a def of which nothing is said -/
theorem fnD_bad {P : Program} {w : World} {K : PySem.W.Frag} {mg : Str → Option Value} {base : Heap} {k : Nat} {f : Addr} {fd : FuncData} {ps : List Str} : FnD P w K mg base k f fd ps (fun _ _ => .bad) :=
  ⟨fun _ _ _ _ ⟨_, _, _, _, _, _, h⟩ => h.elim, fun _ _ _ _ _ _ _ _ _ _ _ _ _ ⟨_, _, _, _, _, _, h⟩ => h.elim⟩
end DL
end
/-! ### DL26 -/
section
/-! DL26: raise of an own class without __init__; try .. except X as e. -/
set_option linter.all false
set_option maxRecDepth 100000
set_option maxHeartbeats 4000000
namespace DL
open PySem PySem.Spec L2
open PyProof.Rows hiding St
variable [Tbs]
/-- what an own error class without __init__ must say -/
structure ErrC (K : PySem.W.Frag) (C : Addr) : Prop where
  x : PySem.W.excIn K C [.type "ValueError", .type "Exception", .type "BaseException", .type "object"] "ValueError.__new__" = true
  kp : PySem.W.keepIn K (.ref C) = true
  b : PySem.W.subIn K (.ref C) (.type "BaseException") = some true
  t : PySem.W.typeIn K (.ref C) = some (.type "type")
section
variable {X : Cx} {W : WX}
/-- X() -/
theorem pmk_own0 {C : Addr} {bmB : List Value} {B newId initId : String} {x : Str} {p pos : Pos} (F : ExcBaseFacts B newId initId bmB) (q : PySem.W.excIn X.K C bmB newId = true) (gC : X.mg x = some (.ref C)) (kC : PySem.W.keepIn X.K (.ref C) = true) (r : Raises X (.ref C)) (hg : Gl X x)
    (hdb : (x == ("__debug__" : Str)) = false := by decide) : PMk X (.Call (.Name x p) [] [] pos) (fun _ H Q => Q (.ref C) none H) := by
  intro pins s σ H Q I h
  refine wpAny_Call_Name_kw (ld_glob I hg gC ?_ hdb)
  refine PySem.W.callWith_K0 I.kIn kC ?_
  show wpAny _ _ (call (.ref C) []) _ _ _
  obtain ⟨bm, N, nm, qn, bs, hdct, sn, sub, ab, col, dd, k0, k1, k2, k3, k5, mN, hC, hN, hni, T⟩ := exc_obj I.kIn q
  refine wpAny_call_exc_subT F T hC hN hni (fun h' e hm => ?_) (by show 0 ≤ sizeLine; omega)
  exact mk_of I hm r h (I.hok.gone hm.new)
def mRaise (C : Addr) : MS := fun r s => .exc ⟨C, none⟩ r s
theorem ds_raise0 {x : Str} {C : Addr} {p pos pos' : Pos} (hc : X.calm = true) (tk : Takes X W) (F : ErrC X.K C) (gC : X.mg x = some (.ref C)) (hg : Gl X x) (hdb : (x == ("__debug__" : Str)) = false := by decide) :
    DS X W (.Raise (some (.Call (.Name x p) [] [] pos)) none pos') (mRaise C) :=
  PS.imp (ps_raise hc tk (pmk_own0 PySem.F.excBase_ValueError F.x gC F.kp (raises_own F.b F.t) hg hdb)) fun D σ H ⟨p, r, s, he, hs, h⟩ => h p H σ none Ex.refl hs he rfl
/-! ### try -/
def unsetS (i : Nat) : S → S
  | .nx r s => .nx (r.set i none) s
  | .bk r s => .bk (r.set i none) s
  | .ct r s => .ct (r.set i none) s
  | .rt d s => .rt d s
  | _ => .bad
noncomputable def mTry (i : Nat) (cs : List (Addr × Bool)) (m : MS) (h : Addr → Addr → MS) : MS := fun r s => match m r s with
  | .exc e r1 s1 => match e.fs, cs.lookup e.cls with
    | none, some true => open Classical in if hh : ∃ x, ∀ a, unsetS i (h a e.cls (r1.set i (some (.con (.ref a)))) s1) = x then Classical.choose hh else .bad
    | none, some false => .exc e r1 s1
    | _, _ => .bad
  | x => x
theorem mTry_exc {i : Nat} {cs : List (Addr × Bool)} {m : MS} {h : Addr → Addr → MS} {r r1 : Env} {s s1 : Sto} {C : Addr} {x : S} (e : m r s = .exc ⟨C, none⟩ r1 s1) (hc : cs.lookup C = some true)
    (hx : ∀ a, unsetS i (h a C (r1.set i (some (.con (.ref a)))) s1) = x) : mTry i cs m h r s = x := by
  have hh : ∃ x, ∀ a, unsetS i (h a C (r1.set i (some (.con (.ref a)))) s1) = x := ⟨x, hx⟩
  unfold mTry
  rw [e]
  simp only [hc]
  rw [dif_pos hh, ← Classical.choose_spec hh 0, hx 0]
theorem lookup_mem {α β : Type} [BEq α] [LawfulBEq α] {k : α} {v : β} : ∀ {l : List (α × β)}, l.lookup k = some v → (k, v) ∈ l
  | [], h => by cases h
  | (a, b) :: l, h => by
    rw [List.lookup_cons] at h
    split at h
    · rename_i e
      cases h
      rw [eq_of_beq e]
      exact List.mem_cons_self
    · exact List.mem_cons_of_mem _ (lookup_mem h)
/-- the suite for an exception of a class that is told -/
def sTs (K : PySem.W.Frag) (cs : List (Addr × Bool)) (h : Addr → Addr → MS) : Addr → Value → Option Addr → TS := fun a cls d D σ H => ∃ C, cls = .ref C ∧ (C, true) ∈ cs ∧ d = none ∧ tS K W0 (h a C) D σ H
theorem try_read {K : PySem.W.Frag} {Wout : WX} {c : Value} {i : Nat} {cs : List (Addr × Bool)} {m : MS} {h : Addr → Addr → MS} (hcs : ∀ q ∈ cs, PySem.W.exmOne K (.ref q.1) c = some q.2) {D : Ends} {σ : L2.St} {H : Hp} (q : tS K Wout (mTry i cs m h) D σ H) :
    tS K (wAs K c i (sTs K cs h) Wout D) m D σ H := by
  obtain ⟨p, r, s, he, hs, q⟩ := q
  refine ⟨p, r, s, he, hs, ?_⟩
  unfold mTry at q
  cases hm : m r s with
  | exc e r1 s1 =>
    rw [hm] at q
    simp only at q
    obtain ⟨C, fs⟩ := e
    cases fs with
    | some fs => exact q.elim
    | none =>
      cases hl : cs.lookup C with
      | none => simp only [hl] at q; exact q.elim
      | some b =>
        simp only [hl] at q
        have hb := hcs _ (lookup_mem hl)
        cases b with
        | false =>
          intro p' H' t d ex hs' he' hx
          exact ⟨false, hb, (fun z => Bool.noConfusion z), fun _ => q p' H' t d ex hs' he' hx⟩
        | true =>
          simp only at q
          split at q
          · rename_i hh
            have hspec := Classical.choose_spec hh
            generalize Classical.choose hh = x at q hspec
            intro p' H' t d ex hs' he' hx
            refine ⟨true, hb, fun _ a ha => ⟨C, rfl, lookup_mem hl, hx, p', r1.set i (some (.con (.ref a))), s1, he'.set (.con _), hs', ?_⟩, fun z => Bool.noConfusion z⟩
            have hxa := hspec a
            have q' := pS.mono ex q
            cases hv : h a C (r1.set i (some (.con (.ref a)))) s1 with
            | nx r2 s2 =>
              rw [hv] at hxa
              subst hxa
              exact fun p2 H2 t2 e2 hs2 he2 => q' p2 H2 (t2.set i none) e2 hs2 (he2.unset i)
            | bk r2 s2 =>
              rw [hv] at hxa
              subst hxa
              exact fun p2 H2 t2 e2 hs2 he2 => q' p2 H2 (t2.set i none) e2 hs2 (he2.unset i)
            | ct r2 s2 =>
              rw [hv] at hxa
              subst hxa
              exact fun p2 H2 t2 e2 hs2 he2 => q' p2 H2 (t2.set i none) e2 hs2 (he2.unset i)
            | rt d2 s2 =>
              rw [hv] at hxa
              subst hxa
              exact q'
            | exc e2 r2 s2 =>
              rw [hv] at hxa
              subst hxa
              exact q'.elim
            | bad =>
              rw [hv] at hxa
              subst hxa
              exact q'.elim
          · exact q.elim
  | nx r1 s1 => rw [hm] at q; exact q
  | rt r1 s1 => rw [hm] at q; exact q
  | bk r1 s1 => rw [hm] at q; exact q
  | ct r1 s1 => rw [hm] at q; exact q
  | bad => rw [hm] at q; exact q
theorem ds_try_as {x n : Str} {c : Value} {i : Nat} {body suite : List Stmt} {b₀ : Stmt} {np pos pos' : Pos} {cs : List (Addr × Bool)} {m : MS} {h : Addr → Addr → MS} (hs : X.stack = X.env :: X.outer) (hf : X.env.frame = some X.env.locals) (hN : X.N.Nodup) (hi : X.N[i]? = some n) (hln : X.env.kindOf n = some .local)
    (hc : Names X x c) (tk : Takes X W) (hcs : ∀ q ∈ cs, PySem.W.exmOne X.K (.ref q.1) c = some q.2)
    (hb : ∀ (W : WX) (pn : List (Addr × Obj)) (xe : Value → Shared → Prop), Takes (X.tr pn xe) W → PassesOwn (model X.prog X.w) X.A X.env xe → DSs (X.tr pn xe) W body m)
    (hsu : ∀ (a : Addr) (oe : Obj) (C : Addr) (pn : List (Addr × Obj)), (C, true) ∈ cs → Zc (.ref C) none oe → (∃ vs, oe.data = .fields vs) → DSs (X.suite a ((a, oe) :: pn)) W0 (b₀ :: suite) (h a C)) :
    DS X W (.Try body [.ExceptHandler (some (.Name x np)) (some n) (b₀ :: suite) pos'] [] [] pos) (mTry i cs m h) := by
  refine PS.imp (ps_try_as (ts := sTs X.K cs h) hs hf hN hi hln hc tk (tb := fun W => tS X.K W m) hb fun a oe cls d pn hz hd => ?_) fun D σ H q => try_read hcs q
  by_cases hh : ∃ C, cls = .ref C ∧ (C, true) ∈ cs ∧ d = none
  · obtain ⟨C, rfl, hC, rfl⟩ := hh
    exact PSs.imp (hsu a oe C pn hC hz hd) fun D σ H ⟨C2, e, _, _, q⟩ => by cases e; exact q
  · exact PSs.imp (dss_never (W := W0)) fun D σ H ⟨C2, e, e2, e3, _⟩ => absurd ⟨C2, e, e2, e3⟩ hh
/-! ### isinstance of the exception that is held -/
def isaL (l : List (Addr × List (V × Bool))) (C : Addr) (c : V) : Option Bool := (l.lookup C).bind fun m => m.lookup c
def gIsE (f : V → Option Bool) (a : Addr) : GF
  | [.con (.ref a'), .con c], s => if a' = a then (f c).map fun b => (.bl b, s) else none
  | _, _ => none
def CV (c : V) (cv : Value) : Prop := ∀ u, RelV c u → u = cv
/-- what is asked of a class and of the classes that it is held against -/
def IsaOk (K : PySem.W.Frag) (C : Addr) (l : List (V × Bool)) : Prop := ∀ q ∈ l, ∃ cv, CV q.1 cv ∧ PySem.W.kitOne K (.ref C) cv = some q.2
theorem isa_nil {K : PySem.W.Frag} {C : Addr} : IsaOk K C [] := fun _ h => by cases h
theorem isa_own {K : PySem.W.Frag} {C D : Addr} {b : Bool} {l : List (V × Bool)} (h : PySem.W.kitOne K (.ref C) (.ref D) = some b) (r : IsaOk K C l) : IsaOk K C ((.ref D, b) :: l) := fun q hq => by
  rcases List.mem_cons.mp hq with rfl | hq
  · exact ⟨.ref D, fun _ h => h, h⟩
  · exact r q hq
theorem isa_ty {K : PySem.W.Frag} {C : Addr} {T : String} {b : Bool} {l : List (V × Bool)} (h : PySem.W.kitOne K (.ref C) (.type T) = some b) (r : IsaOk K C l) : IsaOk K C ((.ty T, b) :: l) := fun q hq => by
  rcases List.mem_cons.mp hq with rfl | hq
  · exact ⟨.type T, fun _ h => h, h⟩
  · exact r q hq
theorem ca_isE {a C : Addr} {oe : Obj} {pn : List (Addr × Obj)} {l : List (Addr × List (V × Bool))} (hl : ∀ q ∈ l, ExcC X.K q.1 ∧ IsaOk X.K q.1 q.2) (hz : Zc (.ref C) none oe) (hf : ∃ vs, oe.data = .fields vs) :
    CallD (X.suite a ((a, oe) :: pn)) (.builtin "isinstance") (gIsE (isaL l C) a) := by
  intro pins s σ H vs us Q I r h
  obtain ⟨p, st, ds, z, s', hs, rds, hg, hfin⟩ := h
  unfold gIsE at hg
  split at hg
  · rename_i a' c
    split at hg
    · rename_i ea
      subst ea
      obtain ⟨v1, v2, rfl, rd1, rd2⟩ := two_rd rds
      cases rd1
      cases rd2
      simp only [Option.map_eq_some_iff] at hg
      obtain ⟨b, hb, hq⟩ := hg
      cases hq
      unfold isaL at hb
      rw [Option.bind_eq_some_iff] at hb
      obtain ⟨m, hm, hb⟩ := hb
      obtain ⟨hC, hI⟩ := hl _ (lookup_mem hm)
      obtain ⟨cv, h1, h2⟩ := hI _ (lookup_mem hb)
      exact call_isE (X := X) hC hz hf pins s σ H _ us Q I r ⟨c, cv, b, rfl, h1, h2, hfin.now hs (.bl _)⟩
    · cases hg
  · cases hg
end
theorem bt_ValueError : bootBuiltins "ValueError" = some (.type "ValueError") := by decide +kernel
theorem cs_nil {K : PySem.W.Frag} {c : Value} : ∀ q ∈ ([] : List (Addr × Bool)), PySem.W.exmOne K (.ref q.1) c = some q.2 := fun _ h => by cases h
theorem cs_cons {K : PySem.W.Frag} {c : Value} {C : Addr} {b : Bool} {l : List (Addr × Bool)} (h : PySem.W.exmOne K (.ref C) c = some b) (r : ∀ q ∈ l, PySem.W.exmOne K (.ref q.1) c = some q.2) : ∀ q ∈ (C, b) :: l, PySem.W.exmOne K (.ref q.1) c = some q.2 := fun q hq => by
  rcases List.mem_cons.mp hq with rfl | hq
  · exact h
  · exact r q hq
theorem il_nil {K : PySem.W.Frag} : ∀ q ∈ ([] : List (Addr × List (V × Bool))), ExcC K q.1 ∧ IsaOk K q.1 q.2 := fun _ h => by cases h
theorem il_cons {K : PySem.W.Frag} {C : Addr} {m : List (V × Bool)} {l : List (Addr × List (V × Bool))} (h : ExcC K C) (h2 : IsaOk K C m) (r : ∀ q ∈ l, ExcC K q.1 ∧ IsaOk K q.1 q.2) : ∀ q ∈ (C, m) :: l, ExcC K q.1 ∧ IsaOk K q.1 q.2 := fun q hq => by
  rcases List.mem_cons.mp hq with rfl | hq
  · exact ⟨h, h2⟩
  · exact r q hq
end DL
end
/-! ### DL27 -/
section
/-! DL27: a list's items backwards; what raises, step by step. -/
set_option linter.all false
set_option maxRecDepth 100000
set_option maxHeartbeats 4000000
namespace DL
open PySem PySem.Spec L2
open PyProof.Rows hiding St
variable [Tbs]
def mRevLs (m : ME) : MA := fun r s => (m r s).bind fun d s1 => match itL s1 d with
  | some ds => .ok ds.reverse s1
  | none => .bad
end DL
end
/-! ### LibN -/
section
set_option linter.all false
set_option maxRecDepth 100000
set_option maxHeartbeats 4000000
namespace DL
open PySem PySem.Spec L2
open PyProof.Rows hiding St
end DL
end
/-! ### LibO -/
section
set_option linter.all false
set_option maxRecDepth 100000
set_option maxHeartbeats 4000000
namespace DL
open PySem PySem.Spec L2
open PyProof.Rows hiding St
end DL
end
/-! ### DL28 -/
section
set_option linter.all false
set_option maxRecDepth 100000
set_option maxHeartbeats 4000000
/-! DL28: a def of the script that lists it whole. -/
namespace DL
open PySem PySem.Spec L2
open PyProof.Rows hiding St
variable [Tbs]
section
variable {X : Cx} {W : WX} {ns : List Int} {e : Expr} {es : List Expr} {m : ME} {ma : MA} {p pos : Pos}
end
end DL
end
/-! ### LibP -/
section
set_option linter.all false
set_option maxRecDepth 100000
set_option maxHeartbeats 4000000
namespace DL
open PySem PySem.Spec L2
open PyProof.Rows hiding St
end DL
end
/-! ### LibQ -/
section
set_option linter.all false
set_option maxRecDepth 100000
set_option maxHeartbeats 4000000
namespace DL
open PySem PySem.Spec L2
open PyProof.Rows hiding St
end DL
end
/-! ### DL29 -/
section
set_option linter.all false
set_option maxRecDepth 100000
set_option maxHeartbeats 4000000
/-! DL29: sorted(xs, key=lambda x: (.., x)). -/
namespace DL
open PySem PySem.Spec L2
open PyProof.Rows hiding St
/-! ### values that nothing changes -/
/-- e's value has P, the heap stays -/
def PV (M : Model) (A : Around) (env : PySem.Env) (e : Expr) (s : Shared) (P : Value → Prop) : Prop :=
  ∀ (tk : Nat) (Q E : Value → Shared → Prop), (∀ v tk', P v → Q v { s with toks := tk' }) → wpAny M A (eval e env) Q E { s with toks := tk }
section
variable {M : Model} {prog : Program} {w : World} {A : Around} {env : PySem.Env} {e a b : Expr} {s : Shared} {P P' : Value → Prop} {pos : Pos}
theorem PV.imp (h : PV M A env e s P) (f : ∀ v, P v → P' v) : PV M A env e s P' := fun tk Q E q => h tk Q E fun v tk' p => q v tk' (f v p)
theorem PV.loc {L : Addr} {m : Str → Option Value} {x : Str} {v : Value} (hk : env.scope.kind = .function) (hl : env.kindOf x = some .local) (hn : s.heap.Ns L m) (hL : env.locals = L) (hm : m x = some v) (hd : (x == ("__debug__" : Str)) = false := by decide) : PV (model prog w) A env (.Name x pos) s (· = v) := by
  subst hL
  exact fun tk Q E q => wpAny_Name (wpAny_loadName_local (s := { s with toks := tk }) hk hl hn hm (q v tk rfl)) hd
theorem PV.free {x : Str} {c : Addr} {v : Value} (hk : env.scope.kind = .function) (hl : env.kindOf x = some .free) (hc : env.cells.lookup x = some c) (hcell : s.heap.IsCell c (some v)) (hd : (x == ("__debug__" : Str)) = false := by decide) (hcd : (x == ("__classdict__" : Str)) = false := by decide) : PV (model prog w) A env (.Name x pos) s (· = v) :=
  fun tk Q E q => wpAny_Name (wpAny_loadName_free (s := { s with toks := tk }) hk hl hc hcell (q v tk rfl) hcd) hd
theorem PV.int {i : Int} {j : Nat} : PV M A env (.Constant (.int i) j pos) s (fun v => ∃ t, v = .int i t) := fun tk Q E q => wpAny_Constant_int (q _ _ ⟨_, rfl⟩)
end
section
variable {X : Cx} {A : Around} {env : PySem.Env} {e a b : Expr} {pins : List (Addr × Obj)} {σ : St} {H : Hp} {s : Shared} {pos : Pos}
/-- e's value is z's -/
abbrev PR (X : Cx) (A : Around) (env : PySem.Env) (e : Expr) (s : Shared) (z : V) : Prop := PV (model X.prog X.w) A env e s (RelV z)
theorem PR.int {i : Int} {j : Nat} : PR X A env (.Constant (.int i) j pos) s (.int i) := PV.int.imp fun _ h => h
end
/-! ### the call of the key -/
section
variable {prog : Program} {w : World} {A : Around} {s : Shared}
end
end DL
end
/-! ### DL30 -/
section
set_option linter.all false
set_option maxRecDepth 100000
set_option maxHeartbeats 4000000
/-! DL30: sorted(xs, key=lambda x: (.., x)): mirrors and the rule. -/
namespace DL
open PySem PySem.Spec L2
open PyProof.Rows hiding St
/-! ### data as the model reads them -/
section
variable {X : Cx} {pins : List (Addr × Obj)} {σ : St} {H : Hp} {s : Shared} {p : List Addr}
mutual
theorem reads_of (I : Inv X pins σ H s) : ∀ (d : D) {v : V} {u : Value} {z : PyData}, RD X.K p H d v → RelV v u → D.pyW (fun _ => none) d = some z → Reads s.heap u z []
  | .non, _, _, _, .non, r, e => by
    simp only [D.pyW] at e
    cases e
    cases r
    exact .none
  | .bl b, _, _, _, .bl _, r, e => by
    simp only [D.pyW] at e
    cases e
    cases r
    exact .bool b
  | .int b, _, _, _, .int _, r, e => by
    simp only [D.pyW] at e
    cases e
    obtain ⟨t, rfl⟩ := r
    exact .int b t
  | .str b, _, _, _, .str _, r, e => by
    simp only [D.pyW] at e
    cases e
    obtain ⟨t, rfl⟩ := r
    exact .str b t
  | .tup ds, _, _, _, .tup h rs, r, e => by
    simp only [D.pyW] at e
    cases q : D.pysW (fun _ => none) ds with
    | none => rw [q] at e; cases e
    | some zs =>
      rw [q] at e
      cases e
      cases r
      obtain ⟨its, rv, ⟨o, ho, hc, n, hd⟩, _⟩ := I.tuple h
      exact .tuple ho hc hd (by
        have := readsAll_of I ds rs rv q
        simpa using this)
  | .loc n, _, _, _, .loc h, _, e => by simp only [D.pyW] at e; cases e
  | .con v, _, _, _, .con _, _, e => by simp only [D.pyW] at e; cases e
theorem readsAll_of (I : Inv X pins σ H s) : ∀ (ds : List D) {vs : List V} {us : List Value} {zs : List PyData}, RDs X.K p H ds vs → Vals vs us → D.pysW (fun _ => none) ds = some zs → ReadsAll s.heap us zs []
  | [], _, _, _, .nil, r, e => by
    simp only [D.pysW] at e
    cases e
    cases r
    exact .nil
  | d :: ds, _, _, _, .cons h rs, r, e => by
    simp only [D.pysW] at e
    cases q : D.pyW (fun _ => none) d with
    | none => rw [q] at e; cases e
    | some z =>
      cases q2 : D.pysW (fun _ => none) ds with
      | none => rw [q, q2] at e; cases e
      | some zs' =>
        rw [q, q2] at e
        cases e
        cases r with
        | cons r1 r2 => exact .cons (reads_of I d h r1 q) (readsAll_of I ds rs r2 q2)
end
end
/-! ### the key's first item -/
abbrev KF := Env → Sto → D → Option D
/-- what a key leans on: the def's state when the list is sorted, the heap when the key is asked -/
structure KCx [Tbs] (X : Cx) (y : Str) (scope : Scope) (pins : List (Addr × Obj)) (σ : St) (H : Hp) (s : Shared) (h1 : Heap) (L : Addr) (p : List Addr) (r : Env) (sto : Sto) (d : D) (uv : V) (v : Value) : Prop where
  inv : Inv X pins σ H s
  keep : ∀ b o, s.heap.get? b = some o → h1.get? b = some o
  ns : h1.Ns L (fun x => [(y, v)].reverse.lookup x)
  has : ∀ z ∈ scope.names, z.2 = .free → ∃ c, X.env.cells.lookup z.1 = some c
  re : RE X.K p H r σ
  rs : RS X.K p sto H
  rd : RD X.K p H d uv
  rv : RelV uv v
section
variable [Tbs] {X : Cx} {y : Str} {scope : Scope} {e a b : Expr} {m n : KF} {pos : Pos}
def kC (i : Int) : KF := fun _ _ _ => some (.int i)
end
/-! ### the sorted list -/
noncomputable def sKey (k : D → Option D) (d : D) : Option PyData := match (k d).bind (D.pyW fun _ => none), D.pyW (fun _ => none) d with
  | some a, some b => some (.tuple [a, b])
  | _, _ => none
structure OkK (k : D → Option D) (xs : List D) : Prop where
  few : xs.length ≤ 100000
  all : ∀ x ∈ xs, ∃ z, sKey k x = some z ∧ z.depth ≤ 8
  alike : PySem.W.AllAlike (xs.map fun x => (sKey k x).getD .none)
noncomputable def srtK (k : D → Option D) (xs : List D) : List D := xs.mergeSort (PySem.W.dataLe false fun x => (sKey k x).getD .none)
noncomputable def mSrtK (kf : KF) (m : ME) : MA := fun r s => (m r s).bind fun d s1 => match itS s1 d with
  | some xs => open Classical in if OkK (kf r s1) xs then .ok (srtK (kf r s1) xs) s1 else .bad
  | none => .bad
end DL
end
/-! ### DL31 -/
section
set_option linter.all false
set_option maxRecDepth 100000
set_option maxHeartbeats 4000000
/-! DL31: sorted by a key: of a list, of a tuple; the rule. -/
namespace SrtKT
open PySem PySem.Calls PyProof.Rows PySem.W
section
variable {prog : Program} {w : World} {A : Around} {E : Value → Shared → Prop} {s : Shared}
end
end SrtKT
namespace DL
open PySem PySem.Spec L2
open PyProof.Rows hiding St
section
variable [Tbs] {K : PySem.W.Frag} {p : List Addr} {H H' : Hp} {s : Sto}
theorem ex_extN (e : LamX.ExtN H H') : Ex p H p H' := by
  refine ⟨⟨[], by simp⟩, fun a xs h => ?_, fun a o h n t => e a o h fun ps z => by subst z; exact t, fun a h n => absurd h n, fun a o u h => e a _ h fun ps z => by cases z⟩
  rcases h with h | ⟨o, h⟩
  · exact .inl (e a _ h fun ps z => by cases z)
  · exact .inr ⟨o, e a _ h fun ps z => by cases z⟩
theorem RS.extN (h : RS K p s H) (e : LamX.ExtN H H') (t : LamX.Tabs Tbs.T H') : RS K p s H' := by
  refine ⟨h.len, h.nd, fun n ob a h1 h2 => ?_, t, fun x hx => e _ _ (h.cob x hx) LamX.codeO_ne, h.e0.trans (ex_extN e).e0⟩
  obtain ⟨o, q1, q2⟩ := h.ob n ob a h1 h2
  exact ⟨o, e a o q1 (fun ps z => by subst z; exact nomatch q2), q2.mono (ex_extN e)⟩
end
section
variable [Tbs] {X : Cx} {W : WX}
end
end DL
end
/-! ### DL32 -/
section
set_option linter.all false
set_option maxRecDepth 100000
set_option maxHeartbeats 4000000
/-! DL32: defs that make a lambda. -/
namespace DL
open PySem PySem.Spec L2
open PyProof.Rows hiding St
/-- what a def that makes a lambda leans on: its code object, its table -/
def LamOf [Tbs] (base : Heap) (mg : Str → Option Value) (cd : Value) (q : Str) : Prop :=
  ∃ c P, cd = .ref c ∧ LamX.TabB base mg c P ∧ (P, q ++ ".<locals>." ++ "<lambda>") ∈ Tbs.T ∧ ∀ p ∈ Tbs.T, p.1 = P → p.2 = q ++ ".<locals>." ++ "<lambda>"
theorem fun_okXC {P : Program} {w : World} {K : PySem.W.Frag} {mg : Str → Option Value} {base : Heap} {x qual : Str} {st : Stmt} {f : Addr} {fd : FuncData} {N ps : List Str} {k : Nat} {sp : Sp} (F : Fun K x qual st f fd) (S : FnScope N ps (defScope st)) (len : ∀ vs H Q E, sp vs H Q E → vs.length = ps.length)
    (hbody : ∀ (cdv : Value) (A : Around) (outer : List PySem.Env) (s : Shared) (H : Hp) (vs : List V) (Q : VK) (E : XK), fd.code = cdv → Room k (A.deeper (envOfC qual (defScope st) s.heap.objs.size f cdv)) → sp vs H Q E →
      ∃ t, PSs (cxOf (L2.CX P w) P w K mg base N qual (defScope st) f cdv A outer s H E) (defBody st) t ∧ t { nx := fun _ H' => Q .non H', rt := Q } (L2.start N vs) H) : FnOk P w K mg base (L2.CX P w) (k + 1) f fd ps sp := by
  obtain ⟨oc, od, kV, doc, pm, an, cdv, ct, osl, rfl, lk, hcd⟩ := F.ex
  exact fn_of lk hcd S len fun A outer s H vs Q E hr hsp => hbody cdv A outer s H vs Q E rfl hr hsp
variable [Tbs]
theorem fn_DC {P : Program} {w : World} {K : PySem.W.Frag} {mg : Str → Option Value} {base : Heap} {x qual : Str} {st : Stmt} {f : Addr} {fd : FuncData} {N ps : List Str} {k : Nat} {mb : MS} (F : Fun K x qual st f fd) (S : FnScope N ps (defScope st)) (L : LamOf base mg fd.code qual)
    (hb : ∀ (cdv : Value) (A : Around) (outer : List PySem.Env) (s : Shared) (H : Hp) (E : XK), LamOf base mg cdv qual → Room k (A.deeper (envOfC qual (defScope st) s.heap.objs.size f cdv)) →
      DSs (cxOf (L2.CX P w) P w K mg base N qual (defScope st) f cdv A outer s H E) (fun c d _ H => E c d H) (defBody st) mb) : FnD P w K mg base (k + 1) f fd ps (mDef N.length ps.length mb) := by
  refine fun_okXC F S (fun vs H Q E h => ?_) (fun cdv A outer s H vs Q E hc hr h => ⟨_, hb cdv A outer s H E (hc ▸ L) hr, ?_⟩)
  · obtain ⟨p, s, ds, hl, _, r, _⟩ := h
    rw [← r.length]; exact hl
  · obtain ⟨p, s, ds, hl, hs, r, q⟩ := h
    refine ⟨p, _, s, re_start r N, hs, ?_⟩
    unfold mDef at q
    rw [if_pos hl] at q
    rw [hl]
    show pS K _ _ p H (mb (ds.map some ++ List.replicate (N.length - ps.length) none) s)
    cases hq : mb (ds.map some ++ List.replicate (N.length - ps.length) none) s with
    | nx r1 s1 => rw [hq] at q; exact fun p' H' t ex rs re => q p' H' .non ex rs .non
    | rt d s1 => rw [hq] at q; exact fun p' H' v ex rs rd => q p' H' v ex rs rd
    | exc e r1 s1 => rw [hq] at q; exact fun p' H' t d ex rs re rx => q p' H' d ex rs rx
    | bk _ _ => rw [hq] at q; exact q.elim
    | ct _ _ => rw [hq] at q; exact q.elim
    | bad => rw [hq] at q; exact q.elim
/-- the lambda's own names -/
structure LamK (sc scope : Scope) (y : Str) : Prop where
  free : ∀ z ∈ scope.names, z.2 = .free → sc.names.lookup z.1 = some .cell ∨ sc.names.lookup z.1 = some .free
  co : scope.isCoroutine = false
  gen : scope.isGenerator = false
  kind : scope.kind = .function
  cell : ∀ x ∈ scope.names, x.2 ≠ .cell
  yl : scope.names.lookup y = some .local
  yd : (y == ("__debug__" : Str)) = false
/-- the law's promise, with tables -/
def spLawT (K : PySem.W.Frag) : Sp := fun vs H Q _ => ∃ (a : Addr) (ns : List Int), vs = [.ref a] ∧ SqL K H a (ns.map V.int) ∧ ns.length ≤ 63 ∧ (∀ p ∈ Tbs.T, H p.1 = some (.tbl #[])) ∧ ∀ H2, Q (.bl true) H2
end DL
end
/-! ### LibR -/
section
set_option linter.all false
set_option maxRecDepth 100000
set_option maxHeartbeats 4000000
namespace DL
open PySem PySem.Spec L2
open PyProof.Rows hiding St
end DL
end
/-! ### LibS -/
section
set_option linter.all false
set_option maxRecDepth 100000
set_option maxHeartbeats 4000000
namespace DL
open PySem PySem.Spec L2
open PyProof.Rows hiding St
end DL
end
/-! ### DL33 -/
section
set_option linter.all false
set_option maxRecDepth 100000
set_option maxHeartbeats 4000000
/-! DL33: sorted of data; a key that is the length. -/
namespace DL
open PySem PySem.Spec L2
open PyProof.Rows hiding St
/-! ### sorted(a list of tuples) -/
structure OkD (xs : List D) : Prop where
  few : xs.length ≤ 100000
  all : ∀ x ∈ xs, ∃ z, D.pyW (fun _ => none) x = some z ∧ z.depth ≤ 8
  alike : PySem.W.AllAlike (xs.map fun x => (D.pyW (fun _ => none) x).getD .none)
  tup : ∀ x ∈ xs, ∃ a r, D.pyW (fun _ => none) x = some (.tuple (a :: r))
/-! ### a key whose first item is its length -/
end DL
end
/-! ### LibT -/
section
set_option linter.all false
set_option maxRecDepth 100000
set_option maxHeartbeats 4000000
namespace DL
open PySem PySem.Spec L2
open PyProof.Rows hiding St
end DL
end
/-! ### LibU -/
section
set_option linter.all false
set_option maxRecDepth 100000
set_option maxHeartbeats 4000000
namespace DL
open PySem PySem.Spec L2
open PyProof.Rows hiding St
end DL
end
/-! ### DL34 -/
section
set_option linter.all false
set_option maxRecDepth 100000
set_option maxHeartbeats 4000000
/-! DL34: itertools.combinations, at the library's level. -/
namespace CmbK
open PySem PySem.Spec PySem.Calls PyProof.Rows PySem.W
open Sem (wp)
/-- a combinations object: its pool, its state, what it handed out last, the places that come next -/
abbrev IsCb (h : Heap) (it pool : Addr) (st : Int) (old : Value) (ix : List Nat) : Prop := h.get? it = some { cls := .type "itertools.combinations", dict := none, data := .fields ([.ref pool, rawInt st, old] ++ ix.map fun (i : Nat) => rawInt i).toArray, slots := #[] }
section
variable {prog : Program} {w : World} {A : Around} {E : Value → Shared → Prop} {s : Shared}
end
open PySem.Builtin.Itertools
section
variable {M : Model} {A : Around} {E : Value → Shared → Prop} {s : Shared}
end
section
variable {prog : Program} {w : World} {A : Around} {E : Value → Shared → Prop} {s : Shared}
end
/-- the places that come next, by recursion -/
def nx (n : Nat) : List Nat → Option (List Nat)
  | [] => none
  | i :: t => match nx n t with
    | some t' => some (i :: t')
    | none => if i + (t.length + 1) = n then none else some ((List.range (t.length + 1)).map (i + 1 + ·))
section
variable {prog : Program} {w : World} {A : Around} {E : Value → Shared → Prop} {s : Shared}
end
section
variable {prog : Program} {w : World} {A : Around} {E : Value → Shared → Prop} {s : Shared}
end
end CmbK
end
/-! ### DL35 -/
section
set_option linter.all false
set_option maxRecDepth 100000
set_option maxHeartbeats 4000000
/-! DL35: all combinations, in order. -/
namespace CmbK
def ChO (n : Nat) : List Nat → List (List Nat) → Option (List Nat) → Prop
  | c, [], o => nx n c = o
  | c, c' :: l, o => nx n c = some c' ∧ ChO n c' l o
theorem ChO.map {n r i : Nat} : ∀ {l : List (List Nat)} {c : List Nat}, ChO n c l none → c.length = r → (∀ x ∈ l, x.length = r) → ChO n (i :: c) (l.map (i :: ·)) (if i + (r + 1) = n then none else some ((List.range (r + 1)).map (i + 1 + ·)))
  | [], c, h, hc, _ => by
    subst hc
    show nx n (i :: c) = _
    have h : nx n c = none := h
    simp only [nx, h]
  | c' :: l, c, h, hc, hl => by
    refine ⟨?_, ChO.map h.2 (hl c' List.mem_cons_self) fun x hx => hl x (List.mem_cons_of_mem _ hx)⟩
    simp only [nx, h.1]
end CmbK
end
/-! ### DL36 -/
section
set_option linter.all false
set_option maxRecDepth 100000
set_option maxHeartbeats 4000000
/-! DL36: list(a combinations object). -/
namespace CmbK
open PySem PySem.Spec PySem.Calls PyProof.Rows PySem.W
open Sem (wp)
/-- what is still to come -/
def CbAt (h : Heap) (it pool : Addr) (n : Nat) : List (List Nat) → Prop
  | [] => ∃ st old ix, IsCb h it pool st old ix ∧ (st = 2 ∨ (st = 1 ∧ ix.length ≤ n ∧ nx n ix = none))
  | c :: l => ChO n c l none ∧ c.length ≤ 1000 ∧ c.length ≤ n ∧ (∀ x ∈ l, x.length = c.length) ∧ ((∃ old, IsCb h it pool 0 old c) ∨ ∃ old ix, IsCb h it pool 1 old ix ∧ ix.length ≤ n ∧ nx n ix = some c)
theorem CbAt.keep {h h' : Heap} {it pool : Addr} {n : Nat} {l : List (List Nat)} (x : CbAt h it pool n l) (k : ∀ o, h.get? it = some o → h'.get? it = some o) : CbAt h' it pool n l := by
  cases l with
  | nil =>
    obtain ⟨st, old, ix, h1, h2⟩ := x
    exact ⟨st, old, ix, k _ h1, h2⟩
  | cons c l =>
    obtain ⟨h1, h2, h3, h4, h5⟩ := x
    refine ⟨h1, h2, h3, h4, ?_⟩
    rcases h5 with ⟨old, h6⟩ | ⟨old, ix, h6, h7⟩
    · exact .inl ⟨old, k _ h6⟩
    · exact .inr ⟨old, ix, k _ h6, h7⟩
theorem CbAt.at {h : Heap} {it pool : Addr} {n : Nat} {l : List (List Nat)} (x : CbAt h it pool n l) : ∃ st old ix, IsCb h it pool st old ix := by
  cases l with
  | nil =>
    obtain ⟨st, old, ix, h1, _⟩ := x
    exact ⟨st, old, ix, h1⟩
  | cons c l =>
    obtain ⟨_, _, _, _, h5⟩ := x
    rcases h5 with ⟨old, h6⟩ | ⟨old, ix, h6, _⟩
    · exact ⟨_, old, _, h6⟩
    · exact ⟨_, old, ix, h6⟩
/-- the tuple of the items at some places -/
abbrev tupAt (vs : List Value) (c : List Nat) : Obj := { cls := .type "tuple", data := .seq (c.map fun i => vs.getD i .none).toArray }
/-- the tuples stand at these places -/
structure CbG (vs : List Value) (L : List (List Nat)) (lo : Addr) (h : Heap) (as : List Addr) : Prop where
  rise : as.Pairwise (· < ·)
  above : ∀ a ∈ as, lo < a
  len : as.length = L.length
  at_ : ∀ (j : Nat) (a : Addr) (c : List Nat), as[j]? = some a → L[j]? = some c → h.get? a = some (tupAt vs c)
theorem CbG.there {vs : List Value} {L : List (List Nat)} {lo : Addr} {h : Heap} {as : List Addr} (g : CbG vs L lo h as) {a : Addr} (ha : a ∈ as) : a < h.objs.size := by
  obtain ⟨j, hj⟩ := List.mem_iff_getElem?.mp ha
  have hjl : j < L.length := by rw [← g.len]; exact (List.getElem?_eq_some_iff.mp hj).1
  exact Heap.lt_size (g.at_ j a _ hj (List.getElem?_eq_getElem hjl))
section
variable {prog : Program} {w : World} {A : Around} {E : Value → Shared → Prop} {s : Shared}
end
section
variable {prog : Program} {w : World} {A : Around} {s : Shared} {R : Result → Shared → Prop} {vs : List Value} {L : List (List Nat)}
end
section
variable {prog : Program} {w : World} {A : Around} {E : Value → Shared → Prop} {s : Shared} {I pool : Addr} {vs : List Value} {L : List (List Nat)}
end
end CmbK
end
/-! ### DL37 -/
section
set_option linter.all false
set_option maxRecDepth 100000
set_option maxHeartbeats 4000000
/-! DL37: list(combinations(xs, k)): the rule over data. -/
namespace CmbK
open PySem PySem.Spec PySem.Calls PyProof.Rows PySem.W
open Sem (wp)
section
variable {prog : Program} {w : World} {A : Around} {E : Value → Shared → Prop} {s : Shared} {I pool : Addr} {vs : List Value} {L : List (List Nat)}
end
end CmbK
namespace DL
open PySem PySem.Spec L2
open PyProof.Rows hiding St
section
variable {X : Cx} {pins : List (Addr × Obj)} {σ : St} {H H' : Hp} {s : Shared}
end
end DL
end
/-! ### DL38 -/
section
set_option linter.all false
set_option maxRecDepth 100000
set_option maxHeartbeats 4000000
/-! DL38: list(combinations(xs, k)) in a def. -/
namespace DL
open PySem PySem.Spec L2
open PyProof.Rows hiding St
section
variable [Tbs] {X : Cx} {W : WX} {e1 e2 : Expr} {ma : MA} {p1 p2 pos pos2 : Pos}
end
end DL
end
/-! ### LibV -/
section
set_option linter.all false
set_option maxRecDepth 100000
set_option maxHeartbeats 4000000
namespace DL
open PySem PySem.Spec L2
open PyProof.Rows hiding St
end DL
end
/-! ### LibW -/
section
set_option linter.all false
set_option maxRecDepth 100000
set_option maxHeartbeats 4000000
namespace DL
open PySem PySem.Spec L2
open PyProof.Rows hiding St
end DL
end
/-! ### DL39 -/
section
set_option linter.all false
set_option maxRecDepth 100000
set_option maxHeartbeats 4000000
/-! DL39: comb(n, k) of math, imported by name. -/
namespace DL
open PySem PySem.Spec L2
open PyProof.Rows hiding St
section
variable [Tbs] {X : Cx} {W : WX} {e : Expr} {es : List Expr} {ma : MA} {pos : Pos}
end
end DL
end
/-! ### LibX -/
section
set_option linter.all false
set_option maxRecDepth 100000
set_option maxHeartbeats 4000000
namespace DL
open PySem PySem.Spec L2
open PyProof.Rows hiding St
end DL
end
/-! ### LibY -/
section
set_option linter.all false
set_option maxRecDepth 100000
set_option maxHeartbeats 4000000
namespace DL
open PySem PySem.Spec L2
open PyProof.Rows hiding St
end DL
end
/-! ### DL40 -/
section
set_option linter.all false
set_option maxRecDepth 100000
set_option maxHeartbeats 4000000
/-! DL40: a def that calls the lambda which it is handed. -/
namespace DL
open PySem PySem.Spec L2
open PyProof.Rows hiding St
abbrev Act := Sto → R D
open Classical in
/-- the handed function is called: it stands in slot i -/
noncomputable def mAct (f : Addr) (i : Nat) (act : Act) : ME := fun r s => if r[i]? = some (some (.con (.ref f))) then act s else .bad
open Classical in
/-- x(lambda: e); the place of the function object does not matter -/
noncomputable def mLam (L : Addr → Act → MF) (mb : ME) : ME := fun r s =>
  if ∀ f, L f (fun s' => mb r s') [.con (.ref f)] s = L 0 (fun s' => mb r s') [.con (.ref 0)] s then L 0 (fun s' => mb r s') [.con (.ref 0)] s else .bad
/-- a code object more is known; all goes on from p and H -/
@[reducible] def tbs1 (t : Tbs) (c : Addr) (q : Str) (p : List Addr) (H : Hp) : Tbs := { T := t.T, C := (c, q) :: t.C, p0 := p, H0 := H }
section
variable {K : PySem.W.Frag} {p p' : List Addr} {H H' : Hp} {s s' : Sto} {c : Addr} {q : Str}
theorem rs_in {t : Tbs} (h : @RS t K p s H) (e : H c = some (LamX.CodeO c q)) : @RS (tbs1 t c q p H) K p s H :=
  @RS.mk (tbs1 t c q p H) K p s H h.len h.nd h.ob h.tab (fun x hx => by
    rcases List.mem_cons.mp hx with rfl | hx
    · exact e
    · exact h.cob x hx) Ex0.refl
theorem rs_out {t : Tbs} (h : @RS t K p s H) (ex : Ex0 p H p' H') (h' : @RS (tbs1 t c q p H) K p' s' H') : @RS t K p' s' H' :=
  @RS.mk t K p' s' H' (@RS.len (tbs1 t c q p H) K p' s' H' h') (@RS.nd (tbs1 t c q p H) K p' s' H' h') (@RS.ob (tbs1 t c q p H) K p' s' H' h') (@RS.tab (tbs1 t c q p H) K p' s' H' h') (fun x hx => @RS.cob (tbs1 t c q p H) K p' s' H' h' x (List.mem_cons_of_mem _ hx)) (h.e0.trans ex)
end
section
variable {X : Cx} {pins : List (Addr × Obj)} {σ : L2.St} {H : Hp} {s : Shared}
/-- the context of the def that got the lambda -/
abbrev giveCx (X : Cx) (Ng : List Str) (x : Str) (sg : Scope) (g : Addr) (cdg : Value) (s : Shared) (H : Hp) (E : XK) : Cx := cxOf (L2.CX X.prog X.w) X.prog X.w X.K X.mg X.base Ng x sg g cdg X.A X.stack s H E
theorem de_act {t : Tbs} {Ng : List Str} {x : Str} {sg : Scope} {g f c' : Addr} {cdg pm ctv : Value} {params : Arguments} {body : Expr} {scope : Scope} {k i : Nat} {a : Str} {pn : List (Addr × Obj)} {xe : Value → Shared → Prop} {W2 : WX} {E : XK} {p1 p2 : Pos} {p : List Addr} {r : Env} {mb : ME}
    (I : Inv X pins σ H s) (LS : LamX.LamS X.env.scope scope) (ho : s.heap.get? f = some (PySem.W.kla_obj "<lambda>" (X.env.qual ++ "<lambda>") params body scope (cloFrom X.env.cells scope.names []) pm c' ctv)) (hn : H f = none) (hst : f ∉ frs X.stack)
    (hbd : bindArgs (PySem.W.kla_fn "<lambda>" (X.env.qual ++ "<lambda>") params body scope (cloFrom X.env.cells scope.names []) pm (.ref c') ctv) ⟨[], []⟩ = pure []) (hre : RE X.K p H r σ)
    (hrm : Room (k + 1) (X.A.deeper (envOfC x sg s.heap.objs.size g cdg)))
    (hb : ∀ (A : Around) (outer : List PySem.Env) (s1 : Shared) (H1 : Hp) (E1 : XK), Room k (A.deeper (LamX.lamEnv X scope s1.heap.objs.size f c')) → @DE (tbs1 t c' (X.env.qual ++ "<lambda>") p H) (LamX.lamCx X A outer s1 H1 E1 scope f c') (fun c d _ H2 => E1 c d H2) body mb)
    (tk : Takes ((giveCx X Ng x sg g cdg s H E).tr pn xe) W2) (hN : Ng[i]? = some a) (hv : Vis sg a) (hd : (a == ("__debug__" : Str)) = false := by decide) (hcd : (a == ("__classdict__" : Str)) = false := by decide) :
    @DE (tbs1 t c' (X.env.qual ++ "<lambda>") p H) ((giveCx X Ng x sg g cdg s H E).tr pn xe) W2 (.Call (.Name a p1) [] [] p2) (mAct f i fun s' => mb r s') := by
  refine ⟨fun qins sZ τ HZ Q IZ hh => ?_⟩
  obtain ⟨pZ, rZ, stoZ, reZ, rsZ, qZ⟩ := hh
  have hsl : rZ[i]? = some (some (.con (.ref f))) := by
    by_cases h : rZ[i]? = some (some (.con (.ref f)))
    · exact h
    · unfold mAct at qZ
      rw [if_neg h] at qZ
      exact qZ.elim
  unfold mAct at qZ
  rw [if_pos hsl] at qZ
  obtain ⟨v0, hv1, hv2⟩ := reZ.at_ i _ hsl
  cases hv2
  refine wpAny_Call_Name_kw (thn ((pe_var (pos := p1) (i := i) hN hv hd hcd).run qins sZ τ HZ (fun v H1 => v = .ref f ∧ H1 = HZ) IZ ⟨.ref f, hv1, rfl, rfl⟩) ?_)
  rintro u s1 ⟨v, H1, J1, r1, rfl, rfl⟩
  obtain rfl : u = Value.ref f := r1
  have un : Un (frs X.stack) [] H H1 s.heap s1.heap := J1.base
  have obF : s1.heap.get? f = some (PySem.W.kla_obj "<lambda>" (X.env.qual ++ "<lambda>") params body scope (cloFrom X.env.cells scope.names []) pm c' ctv) := un.keep f _ ho hn hst (fun z => by cases z)
  refine PySem.W.callWith_F0 ⟨_, _, _, _, obF⟩ ?_
  have hco : H1 c' = some (LamX.CodeO c' (X.env.qual ++ "<lambda>")) := @RS.cob (tbs1 t c' (X.env.qual ++ "<lambda>") p H) _ _ _ _ rsZ (c', X.env.qual ++ "<lambda>") List.mem_cons_self
  obtain ⟨⟨oc, vs, tt, hoc, hdc, hvc⟩, _, _⟩ := J1.hok c' _ hco
  have hrun : codeAny (model X.prog X.w) (X.A.deeper (envOfC x sg s.heap.objs.size g cdg)) (.call (.ref f) ⟨[], []⟩) (CR (L2.CX X.prog X.w) (envOfC x sg s.heap.objs.size g cdg :: X.stack) X.prog X.w H1 s1 Q (WE W2 τ)) s1 := by
    refine PySem.W.kla_callFunE hrm.depth obF rfl LS.co LS.gen rfl ⟨c', oc, vs, tt, rfl, hoc, hdc, hvc⟩ (hbd ▸ ?_)
    refine wpAny_pure (wpAny_newFunctionEnv (fun y hy => (LS.own y hy).2) (fun y hy => by cases hy) (fun h2 hns hsb => ⟨J1.nolimit.fresh _ hsb, ?_⟩) LS.kind)
    have kp : ∀ b o, s1.heap.get? b = some o → h2.get? b = some o := fun b o e => hsb.extBut b o (Nat.ne_of_lt (Heap.lt_size e)) (Heap.get?_push_of_some _ e)
    have J2 := LamX.lam_start2 (E := WE W2 τ) (f := f) (c' := c') (tk := s1.toks + ([] : List (Str × Value)).length) I LS J1.env0 hrm.hd un hns kp
    refine PySem.W.kla_codeExpr (wpAny_mono ((hb _ _ s1 H1 (WE W2 τ) (hrm.deeper _)).run [] _ _ H1 Q J2 ?_) ?_ fun e s' z => z)
    · exact ⟨pZ, r, stoZ, hre.mono0 (@RS.e0 (tbs1 t c' (X.env.qual ++ "<lambda>") p H) _ _ _ _ rsZ), rsZ, by
        dsimp only at qZ
        cases hq : mb r stoZ with
        | ok d s2 => rw [hq] at qZ; exact qZ
        | exc e s2 => rw [hq] at qZ; exact qZ
        | bad => rw [hq] at qZ; exact qZ⟩
    · rintro v s' ⟨w', H', J', rv, q⟩
      exact ⟨w', H', J'.os, J'.bare, J'.base, J'.hok, rv, q⟩
  have hx := passAt (X := (giveCx X Ng x sg g cdg s H E).tr pn xe) tk τ
  refine wpAny_call (codeAny_mono hrun ?_)
  rintro (e | fl) s' hq
  · exact hx qins H1 s1 e s' J1 hq
  · cases fl with
    | ret u => exact J1.after hq
    | next => exact (show False from hq).elim
    | brk => exact (show False from hq).elim
    | cont => exact (show False from hq).elim
end
/-- the body of a def that gets a lambda, the lambda's call being told -/
def GiveB (P : Program) (w : World) (K : PySem.W.Frag) (mg : Str → Option Value) (base : Heap) (Ng : List Str) (x : Str) (sg : Scope) (g : Addr) (cdv : Value) (a : Str) (bg : List Stmt) (k : Nat) (mb : Addr → Act → MS) : Prop :=
  ∀ (t : Tbs) (A : Around) (outer : List PySem.Env) (s : Shared) (H : Hp) (E : XK) (f : Addr) (act : Act), Room k (A.deeper (envOfC x sg s.heap.objs.size g cdv)) →
    (∀ (pn : List (Addr × Obj)) (xe : Value → Shared → Prop) (W2 : WX) (p1 p2 : Pos), Takes ((cxOf (L2.CX P w) P w K mg base Ng x sg g cdv A outer s H E).tr pn xe) W2 → @DE t ((cxOf (L2.CX P w) P w K mg base Ng x sg g cdv A outer s H E).tr pn xe) W2 (.Call (.Name a p1) [] [] p2) (mAct f 0 act)) →
    @DSs t (cxOf (L2.CX P w) P w K mg base Ng x sg g cdv A outer s H E) (fun c d _ H2 => E c d H2) bg (mb f act)
/-- such a def, known by its name -/
def Kl (P : Program) (w : World) (K : PySem.W.Frag) (mg : Str → Option Value) (base : Heap) (x : Str) (k : Nat) (L : Addr → Act → MF) : Prop :=
  ∃ (g : Addr) (a : Str) (pg : Arguments) (bg : List Stmt) (sg : Scope) (dV kV doc pm cdv ct oc : Value) (an od : Option Addr) (osl : Array (Option Value)) (Ng : List Str) (mb : Addr → Act → MS),
    mg x = some (.ref g) ∧ PySem.W.keepIn K (.ref g) = true ∧ K.lookup g = some ⟨oc, od, .func (PySem.W.fnOf x x pg bg sg dV kV doc pm an cdv ct), osl⟩ ∧ PySem.W.codeIn K cdv x = true ∧
    L2.Binds K (PySem.W.fnOf x x pg bg sg dV kV doc pm an cdv ct) [a] [] ∧ FnScope Ng [a] sg ∧ Ng[0]? = some a ∧ Vis sg a ∧ ((a == ("__debug__" : Str)) = false ∧ (a == ("__classdict__" : Str)) = false) ∧
    (∀ f act, L f act = mDef Ng.length 1 (mb f act)) ∧ GiveB P w K mg base Ng x sg g cdv a bg k mb
theorem de_lamcall {t : Tbs} {X : Cx} {W : WX} {x : Str} {k j : Nat} {L : Addr → Act → MF} {params : Arguments} {body : Expr} {scope : Scope} {mb : ME} {c P0 : Addr} {p lpos pos : Pos} (h : Kl X.prog X.w X.K X.mg X.base x k L) (hg : Gl X x) (hr : Room j X.A) (hj : k + 1 ≤ j) (tk : Takes X W)
    (TB : LamX.TabB X.base X.mg c P0) (hcode : X.env.code = .ref c) (hmT : (P0, X.env.qual ++ "<lambda>") ∈ t.T) (hu : ∀ q ∈ t.T, q.1 = P0 → q.2 = X.env.qual ++ "<lambda>") (LS : LamX.LamS X.env.scope scope) (hdef : defaultsOf params X.env = ([], []))
    (hbd : ∀ (q : Str) (cl : List (Str × Addr)) (pm cv ctv : Value), bindArgs (PySem.W.kla_fn "<lambda>" q params body scope cl pm cv ctv) ⟨[], []⟩ = pure []) (k2 : Nat) (hk2 : k2 + 1 ≤ k)
    (hb : ∀ (t2 : Tbs) (A : Around) (outer : List PySem.Env) (s1 : Shared) (H1 : Hp) (E1 : XK) (f c' : Addr), Room k2 (A.deeper (LamX.lamEnv X scope s1.heap.objs.size f c')) → @DE t2 (LamX.lamCx X A outer s1 H1 E1 scope f c') (fun c d _ H2 => E1 c d H2) body mb)
    (hdb : (x == ("__debug__" : Str)) = false := by decide) : @DE t X W (.Call (.Name x p) [.Lambda params body scope lpos] [] pos) (mLam L mb) := by
  refine ⟨fun pins s σ H Q I hh => ?_⟩
  obtain ⟨pp, r, sto, hre, hrs, hq⟩ := hh
  obtain ⟨g, a, pg, bg, sg, dV, kV, doc, pm, cdv, ct, oc, an, od, osl, Ng, mbs, h1, h2, h3, h4, h5, h6, h7, h8, h9, h10, h11⟩ := h
  by_cases hall : ∀ f, L f (fun s' => mb r s') [.con (.ref f)] sto = L 0 (fun s' => mb r s') [.con (.ref 0)] sto
  rotate_left
  · unfold mLam at hq
    rw [if_neg hall] at hq
    exact hq.elim
  unfold mLam at hq
  rw [if_pos hall] at hq
  refine wpAny_Call_Name_kw (ld_glob I hg h1 ?_ hdb)
  refine PySem.W.callWith_K (h₀ := X.base) I.ok.mod.kin h2 ?_ (by rfl) (by rfl)
  show wpAny _ _ (spliced ((false, eval (.Lambda params body scope lpos) X.env) :: backTo pos (starEach [] X.env))) _ _ s
  refine Calls.spliced_cons (LamX.lam_make2 I TB hcode hmT hu hrs.tab hdef (LS.has I.ok) ?_)
  intro f c' pm' ctv H1 s1 I1 eN T1 ho hn hst hco
  refine Calls.spliced_nil ⟨I1.kIn, ?_⟩
  have ex1 : Ex pp H pp H1 := ex_extN eN
  have rs1 : @RS t X.K pp sto H1 := hrs.extN eN T1
  have re1 : RE X.K pp H1 r σ := hre.mono0 ex1.e0
  rw [← hall f, h10] at hq
  have hrun : codeAny (model X.prog X.w) X.A (.call (.ref g) ⟨[.ref f], []⟩) (CR (L2.CX X.prog X.w) X.stack X.prog X.w H1 s1 Q (WE W σ)) s1 := by
    refine LamX.run_ofS (N := Ng) (ps := [a]) (us := [.ref f]) (vs := [.ref f]) h3 h4 h6 (hr.mono hj) I1.env0 (h5 s1 [.ref f] I1.kIn rfl) (.cons rfl .nil) rfl fun hr' => ?_
    have hsu := h11 (tbs1 t c' (X.env.qual ++ "<lambda>") pp H1) X.A X.stack s1 H1 (WE W σ) f (fun s' => mb r s') hr' fun pn xe W2 p1 p2 tk2 =>
      de_act (k := k2) I1 LS ho hn hst (hbd _ _ _ _ _) re1 (hr'.mono hk2) (fun A outer s2 H2 E2 hr2 => hb _ A outer s2 H2 E2 f c' hr2) tk2 h7 h8 h9.1 h9.2
    refine ⟨_, hsu, pp, _, sto, re_start (.cons (.con _) .nil) Ng, rs_in rs1 hco, ?_⟩
    unfold mDef at hq
    rw [if_pos (by rfl)] at hq
    show @pS (tbs1 t c' (X.env.qual ++ "<lambda>") pp H1) X.K _ _ pp H1 (mbs f (fun s' => mb r s') ([D.con (.ref f)].map some ++ List.replicate (Ng.length - 1) none) sto)
    cases hm : mbs f (fun s' => mb r s') ([D.con (.ref f)].map some ++ List.replicate (Ng.length - 1) none) sto with
    | nx r1 s2 => rw [hm] at hq; exact fun p' H' t' ex rs re => hq p' H' (ex1.trans ex) (rs_out rs1 ex.e0 rs) .non .non
    | rt d s2 => rw [hm] at hq; exact fun p' H' v ex rs rd => hq p' H' (ex1.trans ex) (rs_out rs1 ex.e0 rs) v rd
    | exc e r1 s2 => rw [hm] at hq; exact fun p' H' t' d ex rs re rx => hq p' H' d (ex1.trans ex) (rs_out rs1 ex.e0 rs) rx
    | bk _ _ => rw [hm] at hq; exact hq.elim
    | ct _ _ => rw [hm] at hq; exact hq.elim
    | bad => rw [hm] at hq; exact hq.elim
  have hx := passAt (X := X) tk σ
  refine wpAny_call (codeAny_mono hrun ?_)
  rintro (e | fl) s2 hz
  · exact hx pins H1 s1 e s2 I1 hz
  · cases fl with
    | ret u => exact I1.after hz
    | next => exact (show False from hz).elim
    | brk => exact (show False from hz).elim
    | cont => exact (show False from hz).elim
theorem de_lamc {t : Tbs} {X : Cx} {W : WX} {x q : Str} {k j : Nat} {L : Addr → Act → MF} {params : Arguments} {body : Expr} {scope : Scope} {mb : ME} {p lpos pos : Pos} (Lm : LamOf X.base X.mg X.env.code q) (hq : X.env.qual = q ++ ".<locals>.") (h : Kl X.prog X.w X.K X.mg X.base x k L) (hg : Gl X x) (hr : Room j X.A) (hj : k + 1 ≤ j) (tk : Takes X W)
    (LS : LamX.LamS X.env.scope scope) (hdef : defaultsOf params X.env = ([], [])) (hbd : ∀ (q : Str) (cl : List (Str × Addr)) (pm cv ctv : Value), bindArgs (PySem.W.kla_fn "<lambda>" q params body scope cl pm cv ctv) ⟨[], []⟩ = pure []) (k2 : Nat) (hk2 : k2 + 1 ≤ k)
    (hb : ∀ (t2 : Tbs) (A : Around) (outer : List PySem.Env) (s1 : Shared) (H1 : Hp) (E1 : XK) (f c' : Addr), Room k2 (A.deeper (LamX.lamEnv X scope s1.heap.objs.size f c')) → @DE t2 (LamX.lamCx X A outer s1 H1 E1 scope f c') (fun c d _ H2 => E1 c d H2) body mb)
    (hdb : (x == ("__debug__" : Str)) = false := by decide) : @DE t X W (.Call (.Name x p) [.Lambda params body scope lpos] [] pos) (mLam L mb) := by
  obtain ⟨c, P0, e, TB, hm, hu⟩ := Lm
  rw [← hq] at hm hu
  exact de_lamcall h hg hr hj tk TB e hm hu LS hdef hbd k2 hk2 hb hdb
end DL
end
/-! ### DL41 -/
section
set_option linter.all false
set_option maxRecDepth 100000
/-! DL41: zip whose pairs go into one name (the pair that was handed out may still be in use). -/
namespace DL
open PySem PySem.Spec L2
open PyProof.Rows hiding St
open PySem.W (kdx_alive)
variable [Tbs]
section
variable {prog : Program} {w : World} {A : Around} {E : Value → Shared → Prop} {s : Shared} {z TI TO i1 i2 : Addr} {fp1 fp2 : List Addr} {n1 n2 i : Nat} {P1 P2 : Nat → Value → Prop} {St1 St2 : Nat → Heap → Prop} {a1 a2 old : Value} {f : Bool}
end
section
variable {X : Cx} {W : WX} {pos : Pos} {m n : ME}
end
end DL
end
/-! ### DL42 -/
section
set_option linter.all false
set_option maxRecDepth 100000
/-! DL42: d.items(), d.pop(k), o.f += e, l.count(x), l.index(x), d != e, own instances by identity. -/
namespace DL
open PySem PySem.Spec L2
open PyProof.Rows hiding St
variable [Tbs]
/-! ### d.items() -/
def mItems (m : ME) : MI := fun r s => (m r s).bind fun d s1 => match d with
  | .loc n => (match s1[n]? with
    | some (.lok kvs) => .ok (kvs.map fun kv => .tup [keyV kv.1, kv.2], [(n, .lok kvs)]) s1
    | _ => .bad)
  | _ => .bad
section
variable {X : Cx} {W : WX} {pos : Pos} {m n : ME}
theorem rf_at {K : PySem.W.Frag} {p : List Addr} {H : Hp} : ∀ {ds : List (Key × D)} {us : List (Key × V)} {i : Nat} {kv : Key × D}, RF K p H ds us → ds[i]? = some kv → ∃ q, us[i]? = some q ∧ kv.1 = q.1 ∧ RD K p H kv.2 q.2
  | _, _, _, _, .nil, e => by simp at e
  | _, _, 0, _, .cons q r, e => by
    simp only [List.getElem?_cons_zero, Option.some.injEq] at e
    subst e
    exact ⟨_, rfl, q.1, q.2⟩
  | _, _, i + 1, _, .cons q r, e => by
    simp only [List.getElem?_cons_succ] at e ⊢
    exact rf_at r e
theorem str_items {K : PySem.W.Frag} {p1 : List Addr} {H1 : Hp} {d : Addr} {o : Obj} {kvs : List (Key × D)} {us : List (Key × V)} {gs : List (Nat × Ob)} (hd : H1 d = some (.frz o (.dK us))) (r : RF K p1 H1 kvs us) : Str8 K (Iti d o us) p1 H1 (kvs.map fun kv => .tup [keyV kv.1, kv.2]) gs := fun p H s ex rs g => by
  have hd2 := ex.fz _ _ _ hd
  have r2 := r.mono ex
  refine ⟨fun i x hx => ?_, ⟨hd2, by rw [← r.length]; simp⟩⟩
  simp only [List.getElem?_map, Option.map_eq_some_iff] at hx
  obtain ⟨kv, h1, rfl⟩ := hx
  have hi : i < us.length := by rw [← r.length]; exact (List.getElem?_eq_some_iff.mp h1).1
  refine ⟨⟨hd2, hi⟩, fun y H' ⟨T, k, v, h2, e1, hT, e2⟩ => ?_⟩
  subst e1 e2
  obtain ⟨kv2, h3, h4, h5⟩ := rf_at r2 h1
  rw [h2] at h3
  cases h3
  dsimp only at h4 h5
  rw [← h4]
  exact pair_rd rs (keyV_rd _) h5 hT
theorem di_items {e : Expr} {apos cpos tpos : Pos} {elts : List Expr} {kk : Nat} (h : DE X W e m) (hbase : attributeBase e "items" X.env (eval e X.env) = eval e X.env := by rfl) (hline : (apos.endLine == cpos.line) = true := by rfl) :
    DI X W (.Tuple elts kk tpos) (.Call (.Attribute e "items" apos) [] [] cpos) (mItems m) := PI.imp (pi_items h hbase hline) fun t H Q ⟨p, r, s, he, hs, q⟩ => by
  refine tE.stepK he hs q fun p1 H1 d v s1 e1 r1 he1 rd q1 => ?_
  split at q1
  · split at q1
    · rename_i kvs hn
      obtain ⟨a, o, us, rfl, h1, h2, h3⟩ := lok_rd r1 rd hn
      exact ⟨a, o, us, rfl, h1, q1 p1 H1 .refl r1 _ (str_items h1 h2)⟩
    · exact q1.elim
  · exact q1.elim
/-! ### d.pop(k), there -/
def dDrop (kvs : List (Key × D)) (k : Key) : List (Key × D) := kvs.filter fun kv => decide (kv.1 ≠ k)
theorem dDrop_rd {K : PySem.W.Frag} {p : List Addr} {H : Hp} {k : Key} : ∀ {ds : List (Key × D)} {vs : List (Key × V)}, RF K p H ds vs → RF K p H (dDrop ds k) (dropK vs k)
  | _, _, .nil => .nil
  | (k1, d1) :: ds, (k2, v2) :: vs, .cons q r => by
    obtain ⟨q1, q2⟩ := q
    dsimp only at q1 q2
    subst q1
    have ih := dDrop_rd (k := k) r
    unfold dDrop dropK at ih ⊢
    simp only [List.filter_cons]
    split
    · exact .cons ⟨rfl, q2⟩ ih
    · exact ih
def mDPop1 (mo mk : ME) : ME := fun r s => (mo r s).bind fun d s1 => match d with
  | .loc n => (match s1[n]? with
    | some (.dct _) => (mk r s1).bind fun kd s2 => (match s2[n]?, keyD kd with
      | some (.dct kvs), some k => (match dGet kvs k with
        | some v => .ok v (s2.set n (.dct (dDrop kvs k)))
        | none => .bad)
      | _, _ => .bad)
    | _ => .bad)
  | _ => .bad
theorem de_dpop1 {o k : Expr} {mo mk : ME} {apos cpos : Pos} (ho : DE X W o mo) (hk : DE X W k mk) (hm : M1 X o "pop" apos k cpos := by exact ⟨rfl, rfl, rfl, rfl⟩) : DE X W (.Call (.Attribute o "pop" apos) [k] [] cpos) (mDPop1 mo mk) :=
  PE.imp (pe_dpop1 ho hk hm) fun t H Q ⟨p, r, s, he, hs, q⟩ => by
    refine tE.stepK he hs q fun p1 H1 d v s1 e1 r1 he1 rd q1 => ?_
    split at q1
    · rename_i n
      split at q1
      · rename_i kvs0 hn0
        obtain ⟨a, us, rfl, h1, h2, h3⟩ := dct_rd r1 rd hn0
        refine ⟨a, rfl, .inl ⟨us, .inl h1⟩, ?_⟩
        refine tE.stepK he1 r1 q1 fun p2 H2 kd kv s2 e2 r2 he2 rd2 q2 => ?_
        split at q2
        · rename_i kvs k hn hkk
          split at q2
          · rename_i v hv
            obtain ⟨a', us2, ea, g1, g2, g3⟩ := dct_rd r2 (rd.mono e2) hn
            cases ea
            obtain ⟨w, hw, rw1⟩ := dGet_rd g2 hv
            have ex : Ex p2 H2 p2 (upd H2 a (.dK (dropK us2 k))) := ex_upd g3 g1 trivial
            exact ⟨us2, k, w, g1, keyD_rd rd2 hkk, hw, q2 p2 _ ex (r2.put g3 g1 trivial (.dct ((dDrop_rd g2).mono ex))) w (rw1.mono ex)⟩
          · exact q2.elim
        · exact q2.elim
      · exact q1.elim
    · exact q1.elim
/-! ### o.f += e, o.f -= e -/
def mFldAug (op : Int → Int → Int) (cs : List Addr) (f : Str) (mo mv : ME) : MS := fun r s => match mo r s with
  | .ok (.loc n) s1 => (match s1[n]? with
    | some (.ins C fs) => (match fs.lookup f with
      | some (.int i) => if C ∈ cs then (match mv r s1 with
        | .ok (.int j) s2 => (match s2[n]? with
          | some (.ins C' fs') => if C' = C ∧ fs'.length < 1000 then .nx r (s2.set n (.ins C (putD f (.int (op i j)) fs'))) else .bad
          | _ => .bad)
        | .ok _ _ => .bad
        | .exc e s2 => .exc e r s2
        | .bad => .bad) else .bad
      | _ => .bad)
    | _ => .bad)
  | .ok _ _ => .bad
  | .exc e s1 => .exc e r s1
  | .bad => .bad
theorem ds_fldaug {o value : Expr} {mo mv : ME} {f : Str} {cs : List Addr} {tpos : Pos} {op : Operator} {g : Int → Int → Int} (hop : InOp X op fun x y H Q => ∃ i j, x = .int i ∧ y = .int j ∧ Q (.int (g i j)) H)
    (hc : Plain X.K cs f) (ho : DE X W o mo) (hv : DE X W value mv) : DS X W (.AugAssign (.Attribute o f tpos) op value pos) (mFldAug g cs f mo mv) :=
  PS.imp (ps_fldaug ho hv hop) fun Z t H ⟨p, r, s, he, hs, q⟩ => by
    refine tE.stepS (f := fun z s1 => match z with
      | .loc n => (match s1[n]? with
        | some (.ins C fs) => (match fs.lookup f with
          | some (.int i) => if C ∈ cs then (match mv r s1 with
            | .ok (.int j) s2 => (match s2[n]? with
              | some (.ins C' fs') => if C' = C ∧ fs'.length < 1000 then .nx r (s2.set n (.ins C (putD f (.int (g i j)) fs'))) else .bad
              | _ => .bad)
            | .ok _ _ => .bad
            | .exc e s2 => .exc e r s2
            | .bad => .bad) else .bad
          | _ => .bad)
        | _ => .bad)
      | _ => .bad) he hs (by
        show mFldAug g cs f mo mv r s = _
        unfold mFldAug
        cases mo r s with
        | ok d s2 => cases d <;> rfl
        | exc _ _ => rfl
        | bad => rfl) q fun p1 H1 z w s1 e1 r1 he1 rd q1 => ?_
    split at q1
    · rename_i n
      split at q1
      · rename_i C fs hn
        split at q1
        · rename_i i hi
          split at q1
          · rename_i hm
            obtain ⟨a, dx, us, rfl, ha1, rf, hp⟩ := ins_rd r1 rd hn
            obtain ⟨v, hv1, rv⟩ := rf.lookup hi
            cases rv
            refine ⟨a, C, dx, us, _, rfl, ha1, (hc C hm).1, (hc C hm).2, hv1, ?_⟩
            refine tE.stepS (f := fun y s2 => match y with
              | .int j => (match s2[n]? with
                | some (.ins C' fs') => if C' = C ∧ fs'.length < 1000 then .nx r (s2.set n (.ins C (putD f (.int (g i j)) fs'))) else .bad
                | _ => .bad)
              | _ => .bad) he1 r1 (by cases mv r s1 with
                | ok d s2 => cases d <;> rfl
                | exc _ _ => rfl
                | bad => rfl) q1 fun p2 H2 y w s2 e2 r2 he2 rd2 q2 => ?_
            split at q2
            · rename_i j
              split at q2
              · rename_i C' fs' hn2
                split at q2
                · rename_i hm2
                  obtain ⟨rfl, hlen⟩ := hm2
                  obtain ⟨a', dx', us', ea, ha2, rf2, hp2⟩ := ins_rd r2 (rd.mono e2) hn2
                  cases ea
                  cases rd2
                  have ex : Ex p2 H2 p2 (upd H2 a (.ins C' dx' (putF f (.int (g i j)) us'))) := ex_upd hp2 ha2 trivial
                  refine ⟨i, j, rfl, rfl, dx', us', ha2, by rw [← rf2.length]; exact hlen, ?_⟩
                  exact q2 p2 _ t ex (r2.put hp2 ha2 trivial (.ins (own_rd r2 (rd.mono e2) hn2) ((RF.putD (.int _) rf2).mono ex))) (he2.mono ex)
                · exact q2.elim
              · exact q2.elim
            · exact q2.elim
          · exact q1.elim
        · exact q1.elim
      · exact q1.elim
    · exact q1.elim
theorem io_add : InOp X .Add fun x y H Q => ∃ i j, x = .int i ∧ y = .int j ∧ Q (.int (i + j)) H := in_add
theorem io_sub : InOp X .Sub fun x y H Q => ∃ i j, x = .int i ∧ y = .int j ∧ Q (.int (i - j)) H := in_sub
/-! ### l.count(x), l.index(x) -/
def gCount : GM
  | .loc n, [x], s => match (D.loc n).py s, x.py s with
    | some (.list zs), some z => if SeqAt.shaped (.list zs) = true ∧ SeqAt.shaped z = true ∧ PyData.plainAll zs = true ∧ z.plain = true then some (.int ((zs.countP fun y => PyData.eqv y z : Nat) : Int), s) else none
    | _, _ => none
  | _, _, _ => none
theorem md_count (hu : X.A.units + 65 < cLine) : MtD X "list.count" gCount := fun pins s0 σ H x vs v us Q I rx rv ⟨p, s, d, ds, z, s', hs, rd, rds, hg, hf⟩ => by
  unfold gCount at hg
  split at hg
  · rename_i n x
    split at hg
    · rename_i zs z hz1 hz2
      split at hg
      · rename_i hc
        obtain ⟨c1, c2, c3, c4⟩ := hc
        cases hg
        obtain ⟨w, rfl, rw1⟩ := one_rd rds
        have d1 := py_dp hs rd hz1
        have d2 := py_dp hs rw1 hz2
        cases rv with
        | cons ry rt =>
          rename_i uy ut
          cases rt
          obtain ⟨bs, r1⟩ := Dp.reads I z w uy d2 ry
          have hroom : X.A.units + 1 + min (PyData.depthAll zs) z.depth < cLine := room_in_shaped c2 hu
          cases d1 with
          | lst hl ha =>
            cases rx
            obtain ⟨its, rv2, ⟨⟨cls, dd, data, sls⟩, n, ho, hcl, hdn, hdt⟩, hlen⟩ := I.list hl
            obtain ⟨as, h4⟩ := Dp.readsAll I zs _ its ha rv2
            refine SeqAt.count_list_data (vs := its.toArray) (xs := zs) (as := as) ⟨_, ho, hcl, n, hdt⟩ (show ReadsAll _ its.toArray.toList zs as from h4) r1 c3 c4 hroom ?_
            exact ⟨V.int _, H, I.tok _, ⟨_, rfl⟩, hf.now hs (.int _)⟩
      · cases hg
    · cases hg
  · cases hg
def gIndex : GM
  | .loc n, [x], s => match (D.loc n).py s, x.py s with
    | some (.list zs), some z => if SeqAt.shaped (.list zs) = true ∧ SeqAt.shaped z = true then (zs.findIdx? fun y => PyData.eqv y z).map fun j => (.int (j : Nat), s) else none
    | _, _ => none
  | _, _, _ => none
theorem md_index (hu : X.A.units + 65 < cLine) : MtD X "list.index" gIndex := MtR.imp (mt_indexD hu) fun x vs H Q ⟨p, s, d, ds, z, s', hs, rd, rds, hg, hf⟩ => by
  unfold gIndex at hg
  split at hg
  · rename_i n x
    split at hg
    · rename_i zs z hz1 hz2
      split at hg
      · rename_i hc
        simp only [Option.map_eq_some_iff] at hg
        obtain ⟨j, hj, hq⟩ := hg
        cases hq
        obtain ⟨w, rfl, rw1⟩ := one_rd rds
        have d1 := py_dp hs rd hz1
        have d2 := py_dp hs rw1 hz2
        obtain ⟨hlt, hy, hno⟩ := List.findIdx?_eq_some_iff_getElem.mp hj
        cases rd with
        | loc h1 =>
          refine ⟨_, w, z, zs, j, zs[j], rfl, rfl, d1, d2, hc.1, hc.2, List.getElem?_eq_getElem hlt, hy, fun m z' hm hz' => ?_, hf.now hs (.int _)⟩
          obtain ⟨hm2, rfl⟩ := List.getElem?_eq_some_iff.mp hz'
          simpa using hno m hm
      · cases hg
    · cases hg
  · cases hg
end
/-! ### d != e of dicts of whole numbers -/
def intsF : List (Key × D) → Option (List (Key × Int))
  | [] => some []
  | (k, .int i) :: l => (intsF l).map fun r => (k, i) :: r
  | _ => none
/-- each value of the first is that of the second -/
def dSame (b a : List (Key × Int)) : Bool := a.all fun kv => decide ((b.find? fun q => decide (q.1 = kv.1)).map (·.2) = some kv.2)
def gNeD : G2
  | .loc n, .loc m, s => match kvsOf s n, kvsOf s m with
    | some a, some b => (match intsF a, intsF b with
      | some a, some b => some (.bl (!(a.length == b.length && dSame b a)), s)
      | _, _ => none)
    | _, _ => none
  | _, _, _ => none
section
variable {X : Cx}
theorem intsF_val {K : PySem.W.Frag} {p : List Addr} {H : Hp} : ∀ {a : List (Key × D)} {i : List (Key × Int)} {us : List (Key × V)} {vs : List (Key × Value)}, RF K p H a us → KV us vs → intsF a = some i → Paired (fun (x : Key × Int) (y : Key × Value) => x.1 = y.1 ∧ ∃ t, y.2 = .int x.2 t) i vs
  | _, _, _, _, .nil, .nil, e => by cases e; exact .nil
  | (k, d) :: a, _, (k2, u) :: us, (k3, v) :: vs, .cons q r, .cons q2 r2, e => by
    obtain ⟨q1, rd⟩ := q
    obtain ⟨q3, ru⟩ := q2
    dsimp only at q1 rd q3 ru
    subst q1 q3
    cases d <;> simp only [intsF] at e <;> try (cases e; done)
    simp only [Option.map_eq_some_iff] at e
    obtain ⟨l, hl, rfl⟩ := e
    cases rd
    exact .cons ⟨rfl, ru⟩ (intsF_val r r2 hl)
theorem val_find {i : List (Key × Int)} {vs : List (Key × Value)} (h : Paired (fun (x : Key × Int) (y : Key × Value) => x.1 = y.1 ∧ ∃ t, y.2 = .int x.2 t) i vs) (k : Key) :
    (PySem.valueAt vs k = none ∧ (i.find? fun q => decide (q.1 = k)).map (·.2) = none) ∨ ∃ z t, PySem.valueAt vs k = some (.int z t) ∧ (i.find? fun q => decide (q.1 = k)).map (·.2) = some z := by
  induction h with
  | nil => exact .inl ⟨rfl, rfl⟩
  | @cons x y xs ys q _ ih =>
    obtain ⟨q1, t, q2⟩ := q
    by_cases hk : x.1 = k
    · refine .inr ⟨x.2, t, ?_, ?_⟩
      · simp [PySem.valueAt, List.find?_cons, ← q1, hk, q2]
      · simp [List.find?_cons, hk]
    · have hk2 : ¬ y.1 = k := by rw [← q1]; exact hk
      have e1 : PySem.valueAt (y :: ys) k = PySem.valueAt ys k := by simp [PySem.valueAt, List.find?_cons, hk2]
      have e2 : ((x :: xs).find? fun q => decide (q.1 = k)) = xs.find? fun q => decide (q.1 = k) := by simp [List.find?_cons, hk]
      rw [e1, e2]
      exact ih
theorem keq_of {A : Around} {s : Shared} {ib : List (Key × Int)} {kb : List (Key × Value)} (hb : Paired (fun (x : Key × Int) (y : Key × Value) => x.1 = y.1 ∧ ∃ t, y.2 = .int x.2 t) ib kb) :
    ∀ {ia : List (Key × Int)} {ka : List (Key × Value)}, Paired (fun (x : Key × Int) (y : Key × Value) => x.1 = y.1 ∧ ∃ t, y.2 = .int x.2 t) ia ka → PySem.W.KeqHits A s kb ka (dSame ib ia)
  | _, _, .nil => .nil
  | (k, z) :: ia, (k2, v) :: ka, .cons q r => by
    obtain ⟨q1, t, q2⟩ := q
    dsimp only at q1 q2
    subst q1 q2
    have ih := keq_of (A := A) (s := s) hb r
    rcases val_find hb k with ⟨h1, h2⟩ | ⟨y, t2, h1, h2⟩
    · have e : dSame ib ((k, z) :: ia) = false := by simp [dSame, h2]
      rw [e]
      exact .miss h1
    · have e : dSame ib ((k, z) :: ia) = ((z == y) && dSame ib ia) := by
        simp only [dSame, List.all_cons, h2]
        congr 1
        by_cases hzy : z = y
        · subst hzy; simp
        · have : ¬ y = z := fun e => hzy e.symm
          simp [hzy, this]
      rw [e]
      exact .hit h1 (SeqAt.EqAt.int_int z t y t2) ih
theorem kd_at {pins : List (Addr × Obj)} {σ : L2.St} {H : Hp} {s : Shared} {a : Addr} {us : List (Key × V)} (I : Inv X pins σ H s) (h : Rd H a (.dK us)) : ∃ vs, (a == sysModules) = false ∧ KV us vs ∧ s.heap.DictOf (mixKind X.prog X.w) a vs := by
  obtain ⟨_, hd, vs, kv, dd⟩ := dk_rd I.hok h
  exact ⟨vs, hd, kv, dd⟩
theorem op_neD2 (hu : X.A.units + 64 < cLine) : OpD X (compareOp .NotEq) gNeD := fun pins s0 σ H x y v u Q I rx ry ⟨p, s, d, e, z, s', hs, rd, re, hg, hf⟩ => by
  unfold gNeD at hg
  split at hg
  · rename_i n m
    split at hg
    · rename_i a b ha hb
      split at hg
      · rename_i ia ib hia hib
        cases hg
        obtain ⟨aa, us, rfl, h1, h2⟩ := kvs_rd hs rd ha
        obtain ⟨ab, ws, rfl, g1, g2⟩ := kvs_rd hs re hb
        obtain rfl : v = Value.ref aa := rx
        obtain rfl : u = Value.ref ab := ry
        obtain ⟨va, la, kva, da⟩ := kd_at I h1
        obtain ⟨vb, lb, kvb, db⟩ := kd_at I g1
        have pa := intsF_val h2 kva hia
        have pb := intsF_val g2 kvb hib
        refine PySem.W.keq_ne la lb da db (by omega) (fun _ => keq_of pb pa) ?_
        rw [← pa.length, ← pb.length]
        exact ⟨V.bl _, H, I, rfl, hf.now hs (.bl _)⟩
      · cases hg
    · cases hg
  · cases hg
end
end DL
end
/-! ### DL43 -/
section
set_option linter.all false
set_option maxRecDepth 100000
/-! DL43: dict(l) of a list of pairs. -/
namespace DL
open PySem PySem.Spec L2
open PyProof.Rows hiding St
variable [Tbs]
def pairsD : List D → Option (List (Key × D))
  | [] => some []
  | .tup [k, v] :: l => (keyD k).bind fun k => (pairsD l).map fun r => (k, v) :: r
  | _ => none
def mDictPr (m : ME) : MD := fun r s => (m r s).bind fun d s1 => match d with
  | .loc n => (match s1[n]? with
    | some (.lst ds) => (match pairsD ds with
      | some kvs => .ok (kvs.foldl (fun acc kv => dPut acc kv.1 kv.2) []) s1
      | none => .bad)
    | _ => .bad)
  | _ => .bad
section
variable {X : Cx} {W : WX} {e : Expr} {m : ME} {pos p : Pos}
theorem pairsD_cons {d : D} {ds : List D} {kvs : List (Key × D)} (e : pairsD (d :: ds) = some kvs) : ∃ k v k' l, d = .tup [k, v] ∧ keyD k = some k' ∧ pairsD ds = some l ∧ kvs = (k', v) :: l := by
  unfold pairsD at e
  split at e
  · simp at *
  · rename_i k v l' heq
    simp only [Option.bind_eq_some_iff, Option.map_eq_some_iff] at e
    obtain ⟨k', hk, l, hl, rfl⟩ := e
    cases heq
    exact ⟨k, v, k', l, rfl, hk, hl, rfl⟩
  · cases e
theorem pair2_rd {K : PySem.W.Frag} {p : List Addr} {H : Hp} {k v : D} {w : V} (r : RD K p H (.tup [k, v]) w) : ∃ a kv vv, w = .ref a ∧ SqT K H a [kv, vv] ∧ RD K p H k kv ∧ RD K p H v vv := by
  cases r with
  | tup h1 r1 =>
    cases r1 with
    | cons rk r2 =>
      cases r2 with
      | cons rv r3 =>
        cases r3
        exact ⟨_, _, _, rfl, h1, rk, rv⟩
theorem pairs_rd {K : PySem.W.Frag} {p : List Addr} {H : Hp} : ∀ {ds : List D} {us : List V} {kvs : List (Key × D)}, RDs K p H ds us → pairsD ds = some kvs →
    ∃ (ps : List Addr) (ws : List (Key × V)), us = ps.map V.ref ∧ Paired (fun a kv => SqT K H a [kV kv.1, kv.2]) ps ws ∧ RF K p H kvs ws := by
  intro ds
  induction ds with
  | nil =>
    intro us kvs r e
    cases r
    cases e
    exact ⟨[], [], rfl, .nil, .nil⟩
  | cons d ds ih =>
    intro us kvs r e
    obtain ⟨k, v, k', l, rfl, hk, hl, rfl⟩ := pairsD_cons e
    cases r with
    | cons rd r =>
      obtain ⟨ps, ws, rfl, h2, h3⟩ := ih r hl
      obtain ⟨a, kv, vv, rfl, h1, rk, rv⟩ := pair2_rd rd
      have := keyD_rd rk hk
      subst this
      exact ⟨a :: ps, (k', vv) :: ws, rfl, .cons h1 h2, .cons ⟨rfl, rv⟩ h3⟩
theorem dk_dictPr (hc : X.calm = true) (hg : Gl X "dict") (hm : X.mg "dict" = none) (ha : DE X W e m) (hv : bootBuiltins "dict" = some (.type "dict") := by decide +kernel)
    (he : starEach (e :: []) X.env = (false, eval e X.env) :: starEach [] X.env := by rfl) (hpl : (backTo pos (starEach [] X.env)).any (·.1) = false := by rfl) : DDk X W (.Call (.Name "dict" p) [e] [] pos) (mDictPr m) :=
  PE.imp (pe_callTy (call_dictP hc) hg hm hv (pa_cons ha pa_nil he) (by decide) (by decide) he hpl) fun t H Q ⟨p, r, s, he, hs, q⟩ => by
    refine tE.stepK he hs q fun p1 H1 d v s1 e1 r1 he1 rd q1 => ?_
    split at q1
    · split at q1
      · rename_i n ds hn
        split at q1
        · rename_i kvs hk
          obtain ⟨a, us, rfl, h1, h2, h3⟩ := lst_rd r1 rd hn
          obtain ⟨ps, ws, rfl, h4, h5⟩ := pairs_rd h2 hk
          exact ⟨a, ps, ws, rfl, .inl (.inl h1), h4, fun q hq => q1 p1 H1 .refl r1 q _ hq (merge_rd h5 .nil)⟩
        · exact q1.elim
      · exact q1.elim
    · exact q1.elim
end
theorem fnS_DC {P : Program} {w : World} {K : PySem.W.Frag} {mg : Str → Option Value} {base : Heap} {x qual : Str} {st : Stmt} {f : Addr} {fd : FuncData} {N ps : List Str} {k : Nat} {mb : List Int → MS} (F : Fun K x qual st f fd) (S : FnScope N ps (defScope st)) (h1 : ps.length = 1) (L : LamOf base mg fd.code qual)
    (hb : ∀ (ns : List Int), ns.length ≤ 63 → ∀ (cdv : Value) (A : Around) (outer : List PySem.Env) (s : Shared) (H : Hp) (E : XK), LamOf base mg cdv qual → Room k (A.deeper (envOfC qual (defScope st) s.heap.objs.size f cdv)) →
      PSs (cxOf (L2.CX P w) P w K mg base N qual (defScope st) f cdv A outer s H E) (defBody st) (fun Z t H' => Sc K ns t H' ∧ tS K (fun c d _ H => E c d H) (mb ns) Z t H')) : FnS P w K mg base (k + 1) f fd ps (fun ns => mDef N.length ps.length (mb ns)) := by
  refine fun_okXC F S (fun vs H Q E h => ?_) (fun cdv A outer s H vs Q E hc hr h => ?_)
  · obtain ⟨a, ns, p, s, rfl, _⟩ := h
    rw [h1]; rfl
  · obtain ⟨a, ns, p, st', rfl, h63, hsq, hs, q⟩ := h
    refine ⟨_, hb ns h63 cdv A outer s H E (hc ▸ L) hr, ⟨a, ?_, hsq⟩, ?_⟩
    · unfold L2.start
      rfl
    · have r : RDs K p H [.con (.ref a)] [V.ref a] := .cons (.con _) .nil
      refine ⟨p, _, st', re_start r N, hs, ?_⟩
      unfold mDef at q
      dsimp only at q
      rw [if_pos (by rw [h1]; rfl)] at q
      rw [h1] at q
      show pS K _ _ p H (mb ns ([D.con (.ref a)].map some ++ List.replicate (N.length - 1) none) st')
      cases hq : mb ns ([D.con (.ref a)].map some ++ List.replicate (N.length - 1) none) st' with
      | nx r1 s1 => rw [hq] at q; exact fun p' H' t ex rs re => q p' H' .non ex rs .non
      | rt d s1 => rw [hq] at q; exact fun p' H' v ex rs rd => q p' H' v ex rs rd
      | exc e r1 s1 => rw [hq] at q; exact fun p' H' t d ex rs re rx => q p' H' d ex rs rx
      | bk _ _ => rw [hq] at q; exact q.elim
      | ct _ _ => rw [hq] at q; exact q.elim
      | bad => rw [hq] at q; exact q.elim
end DL
end
/-! ### LibZ -/
section
set_option linter.all false
set_option maxRecDepth 100000
set_option maxHeartbeats 4000000
namespace DL
open PySem PySem.Spec L2
open PyProof.Rows hiding St
noncomputable def l_law_thing (A : Str → Addr) : MF := mDef 1 1 (mSeq (mIf (asB (mBin gEq (mCall (l_law_draw A) (mCons (mVar 0) (mCons (mC (.int 4)) mNil))) (mC (.int 0)))) (mRet (mTup mNil)) mNext) (mRet (mTup (mCons (mCall (l_law_draw A) (mCons (mVar 0) (mCons (mC (.int 4)) mNil))) (mCons (mCall (l_law_draw A) (mCons (mVar 0) (mCons (mC (.int 3)) mNil))) (mCons (mCall (l_law_any A) (mCons (mVar 0) (mCons (mNew (mLst (mCons (mC (.int 0)) (mCons (mC (.int 1)) (mCons (mC (.int 7)) (mCons (mBin gPow (mC (.int 10)) (mC (.int 6))) (mCons (mCall (l_law_draw A) (mCons (mVar 0) (mCons (mC (.int 1000)) mNil))) mNil))))))) mNil))) mNil))))))
noncomputable def l_law_account (A : Str → Addr) : MF := mDef 2 1 (mRet (mNewD (mDisp (((mC (.str "lying")), (mBin gMul (mNew (mLst (mCons (mTup mNil) mNil))) (mVar 0))) :: (((mC (.str "waiting")), (mNew (mLc (mRg1 (mVar 0)) (mgName 1) mYes (mNew (mLst mNil)) [1]))) :: (((mC (.str "power")), (mC .non)) :: [((mC (.str "reached")), (mC (.int 0)))]))))))
noncomputable def l_Disk_init (A : Str → Addr) : MF := mDef 3 2 (mSeq (mIf (mNot (asT (mCall (l_is_within A) (mCons (mVar 1) (mCons (mC (.int 1)) (mCons (mC (.int 2000)) mNil)))))) mNever mNext) (mSeq (mSetFld [A "Disk"] "kept_lying" (mVar 0) (mNew (mLc (mRg1 (mVar 1)) (mgName 2) mYes (mTup mNil) [2]))) (mSeq (mSetFld [A "Disk"] "kept_waiting" (mVar 0) (mNewD (fun _ s => .ok [] s))) (mSeq (mSetFld [A "Disk"] "kept_power" (mVar 0) (mC .non)) (mSetFld [A "Disk"] "kept_reached" (mVar 0) (mC (.int 0)))))))
noncomputable def l_Disk_check_cell (A : Str → Addr) : MF := mDef 2 2 (mIf (mNot (asT (mCall (l_is_within A) (mCons (mVar 1) (mCons (mC (.int 0)) (mCons (mBin gSub (mCallB gLen (mCons (mFld [A "Disk"] "kept_lying" (mVar 0)) mNil)) (mC (.int 1))) mNil)))))) mNever mNext)
noncomputable def l_is_thing (A : Str → Addr) : MF := mDef 2 1 (mSeq (mIf (mOr (mNot (asB (mCallB gIsi (mCons (mVar 0) (mCons (mC (.con (.ty "tuple"))) mNil))))) (asB (mBin gNotIn (mCallB gLen (mCons (mVar 0) mNil)) (mTup (mCons (mC (.int 0)) (mCons (mC (.int 3)) mNil)))))) (mRet (mC (.bl false))) mNext) (mRet (mCallF gAll (mLc (mIt (mVar 0)) (mgName 1) mYes (mCall (l_is_within A) (mCons (mVar 1) (mCons (mC (.int 0)) (mCons (mC (.int 1000000)) mNil)))) [1]))))
noncomputable def l_Disk_write (A : Str → Addr) : MF := mDef 3 3 (mSeq (mDrop (mMeth (A "Disk") "check_cell" (l_Disk_check_cell A) (mVar 0) (mCons (mVar 1) mNil))) (mSeq (mIf (mNot (asT (mCall (l_is_thing A) (mCons (mVar 2) mNil)))) mNever mNext) (mSetIx (mBin gAdd (mGet2 (mFld [A "Disk"] "kept_waiting" (mVar 0)) (mVar 1) (mNew (mLst mNil))) (mNew (mLst (mCons (mVar 2) mNil)))) (mFld [A "Disk"] "kept_waiting" (mVar 0)) (mVar 1))))
noncomputable def l_Disk_power (A : Str → Addr) : MF := mDef 2 2 (mSeq (mIf (mAnd (asB (mBin gIsNot (mVar 1) (mC .non))) (mNot (asT (mCall (l_is_within A) (mCons (mVar 1) (mCons (mC (.int 0)) (mCons (mC (.int 1000000)) mNil))))))) mNever mNext) (mSetFld [A "Disk"] "kept_power" (mVar 0) (mVar 1)))
noncomputable def l_law_reached (A : Str → Addr) : MF := mDef 2 2 (mSeq (mIf (asB (mBin gEq (mBin gIx (mVar 0) (mC (.str "power"))) (mC (.int 0)))) (mRet (mC (.bl false))) mNext) (mSeq (mIf (asB (mBin gIsNot (mBin gIx (mVar 0) (mC (.str "power"))) (mC .non))) (mSetIx (mBin gSub (mBin gIx (mVar 0) (mC (.str "power"))) (mC (.int 1))) (mVar 0) (mC (.str "power"))) mNext) (mSeq (mSetIx (mMB gPop (mBin gIx (mBin gIx (mVar 0) (mC (.str "waiting"))) (mVar 1)) (mCons (mC (.int 0)) mNil)) (mBin gIx (mVar 0) (mC (.str "lying"))) (mVar 1)) (mSeq (mSetIx (mBin gAdd (mBin gIx (mVar 0) (mC (.str "reached"))) (mC (.int 1))) (mVar 0) (mC (.str "reached"))) (mRet (mC (.bl true)))))))
noncomputable def l_law_calmed (A : Str → Addr) : MF := mDef 3 1 (mSeq (mFor (mRg1 (mCallB gLen (mCons (mBin gIx (mVar 0) (mC (.str "lying"))) mNil))) (mgName 1) (mFor (mRg1 (mCallB gLen (mCons (mBin gIx (mBin gIx (mVar 0) (mC (.str "waiting"))) (mVar 1)) mNil))) (mgName 2) (mIf (mNot (asT (mCall (l_law_reached A) (mCons (mVar 0) (mCons (mVar 1) mNil))))) (mRet (mC (.bl false))) mNext))) (mRet (mC (.bl true))))
noncomputable def l_Disk_reach_one (A : Str → Addr) : MF := mDef 3 2 (mSeq (mIf (asB (mBin gIsNot (mFld [A "Disk"] "kept_power" (mVar 0)) (mC .non))) (mSeq (mIf (asB (mBin gEq (mFld [A "Disk"] "kept_power" (mVar 0)) (mC (.int 0)))) (mRaise (A "Stopped")) mNext) (mFldAug (· - ·) [A "Disk"] "kept_power" (mVar 0) (mC (.int 1)))) mNext) (mSeq (mAsg (mDPop1 (mFld [A "Disk"] "kept_waiting" (mVar 0)) (mVar 1)) (mgName 2)) (mSeq (mSetIx (mBin gIx (mVar 2) (mC (.int 0))) (mFld [A "Disk"] "kept_lying" (mVar 0)) (mVar 1)) (mSeq (mFldAug (· + ·) [A "Disk"] "kept_reached" (mVar 0) (mC (.int 1))) (mIf (asB (mBin gGt (mCallB gLen (mCons (mVar 2) mNil)) (mC (.int 1)))) (mSetIx (mSl (mVar 2) (some (mC (.int 1))) none) (mFld [A "Disk"] "kept_waiting" (mVar 0)) (mVar 1)) mNext)))))
noncomputable def l_Disk_calm (A : Str → Addr) : MF := mDef 2 1 (mFor (mIt (mNew (mCallL gSrt (mCons (mFld [A "Disk"] "kept_waiting" (mVar 0)) mNil)))) (mgName 1) (mWh (asB (mBin gIn (mVar 1) (mFld [A "Disk"] "kept_waiting" (mVar 0)))) (mDrop (mMeth (A "Disk") "reach_one" (l_Disk_reach_one A) (mVar 0) (mCons (mVar 1) mNil)))))
noncomputable def l_Disk_lying (A : Str → Addr) : MF := mDef 2 2 (mSeq (mDrop (mMeth (A "Disk") "check_cell" (l_Disk_check_cell A) (mVar 0) (mCons (mVar 1) mNil))) (mRet (mBin gIx (mFld [A "Disk"] "kept_lying" (mVar 0)) (mVar 1))))
noncomputable def l_law_is_20 (A : Str → Addr) (self : MF) : MF := mDef 4 2 (mSeq (mIf (asB (mCallB gIsiTs (mCons (mVar 1) (mCons (mTup (mCons (mC (.con (.ty "tuple"))) (mCons (mC (.con (.ty "list"))) mNil))) mNil)))) (mSeq (mIf (mOr (asB (mBin gNe (mCallB gIsi (mCons (mVar 0) (mCons (mC (.con (.ty "tuple"))) mNil))) (mCallB gIsi (mCons (mVar 1) (mCons (mC (.con (.ty "tuple"))) mNil))))) (mNot (asB (mCallB gIsiTs (mCons (mVar 0) (mCons (mTup (mCons (mC (.con (.ty "tuple"))) (mCons (mC (.con (.ty "list"))) mNil))) mNil)))))) (mRet (mC (.bl false))) mNext) (mRet (mIfE (asB (mBin gEq (mCallB gLen (mCons (mVar 0) mNil)) (mCallB gLen (mCons (mVar 1) mNil)))) (mCallF gAll (mLc (mZip (mVar 0) (mVar 1)) (mgTup 2 (mgCons (mgName 2) (mgCons (mgName 3) mgNil))) mYes (mCall self (mCons (mVar 2) (mCons (mVar 3) mNil))) [2, 3])) (mC (.bl false))))) mNext) (mRet (mIfE (asB (mBin gEq (mCallB gIsi (mCons (mVar 0) (mCons (mC (.con (.ty "bool"))) mNil))) (mCallB gIsi (mCons (mVar 1) (mCons (mC (.con (.ty "bool"))) mNil))))) (mBin gEq (mVar 0) (mVar 1)) (mC (.bl false)))))
noncomputable def l_law_is_2 (A : Str → Addr) : Nat → MF
  | 0 => fun _ _ => .bad
  | k + 1 => l_law_is_20 A (l_law_is_2 A k)
noncomputable def l_Disk_read (A : Str → Addr) : MF := mDef 2 2 (mSeq (mDrop (mMeth (A "Disk") "check_cell" (l_Disk_check_cell A) (mVar 0) (mCons (mVar 1) mNil))) (mRet (mIfE (asB (mBin gIn (mVar 1) (mFld [A "Disk"] "kept_waiting" (mVar 0)))) (mBin gIx (mBin gIx (mFld [A "Disk"] "kept_waiting" (mVar 0)) (mVar 1)) (mNeg (mC (.int 1)))) (mBin gIx (mFld [A "Disk"] "kept_lying" (mVar 0)) (mVar 1)))))
noncomputable def l_Disk_waiting (A : Str → Addr) : MF := mDef 3 1 (mRet (mNewD (mLock (mFld [A "Disk"] "kept_waiting" (mVar 0)) (mDc (mItems (mFld [A "Disk"] "kept_waiting" (mVar 0))) (mgTup 2 (mgCons (mgName 1) (mgCons (mgName 2) mgNil))) mYes (mVar 1) (mCallB gLen (mCons (mVar 2) mNil)) [1, 2]))))
noncomputable def l_Disk_reached (A : Str → Addr) : MF := mDef 1 1 (mRet (mFld [A "Disk"] "kept_reached" (mVar 0)))
noncomputable def l_Disk_used (A : Str → Addr) : MF := mDef 2 1 (mRet (mCallB gLen (mCons (mNew (mLc (mIt (mFld [A "Disk"] "kept_lying" (mVar 0))) (mgName 1) (asB (mBin gGt (mCallB gLen (mCons (mVar 1) mNil)) (mC (.int 0)))) (mVar 1) [1])) mNil)))
noncomputable def l_Disk_many_cells (A : Str → Addr) : MF := mDef 1 1 (mRet (mCallB gLen (mCons (mFld [A "Disk"] "kept_lying" (mVar 0)) mNil)))
noncomputable def l_law_disk_is (A : Str → Addr) : MF := mDef 8 2 (mSeq (mAsg (mCallB gLen (mCons (mBin gIx (mVar 1) (mC (.str "lying"))) mNil)) (mgName 2)) (mSeq (mFor (mRg1 (mVar 2)) (mgName 3) (mSeq (mIf (mNot (asT (mCall (l_law_is_2 A 8) (mCons (mMeth (A "Disk") "lying" (l_Disk_lying A) (mVar 0) (mCons (mVar 3) mNil)) (mCons (mBin gIx (mBin gIx (mVar 1) (mC (.str "lying"))) (mVar 3)) mNil))))) (mRet (mC (.bl false))) mNext) (mIf (mNot (asT (mCall (l_law_is_2 A 8) (mCons (mMeth (A "Disk") "read" (l_Disk_read A) (mVar 0) (mCons (mVar 3) mNil)) (mCons (mBin gIx (mBin gAdd (mNew (mLst (mCons (mBin gIx (mBin gIx (mVar 1) (mC (.str "lying"))) (mVar 3)) mNil))) (mBin gIx (mBin gIx (mVar 1) (mC (.str "waiting"))) (mVar 3))) (mNeg (mC (.int 1)))) mNil))))) (mRet (mC (.bl false))) mNext))) (mSeq (mAsg (mNewD (mDictPr (mNew (mLc (mRg1 (mVar 2)) (mgName 3) (asB (mBin gNe (mBin gIx (mBin gIx (mVar 1) (mC (.str "waiting"))) (mVar 3)) (mNew (mLst mNil)))) (mTup (mCons (mVar 3) (mCons (mCallB gLen (mCons (mBin gIx (mBin gIx (mVar 1) (mC (.str "waiting"))) (mVar 3)) mNil)) mNil))) [3])))) (mgName 4)) (mSeq (mAsg (mMeth (A "Disk") "waiting" (l_Disk_waiting A) (mVar 0) mNil) (mgName 5)) (mSeq (mIf (mOr (mNot (asB (mCallB gIsi (mCons (mVar 5) (mCons (mC (.con (.ty "dict"))) mNil))))) (mOr (asB (mBin gNeD (mVar 5) (mVar 4))) (mNot (asB (mCallF gAll (mLock (mVar 4) (mLc (mKeys (mVar 4)) (mgName 3) mYes (mCall (l_law_is_2 A 8) (mCons (mBin gIx (mVar 5) (mVar 3)) (mCons (mBin gIx (mVar 4) (mVar 3)) mNil))) [3]))))))) (mRet (mC (.bl false))) mNext) (mSeq (mAsg (mCallB gLen (mCons (mNew (mLc (mIt (mBin gIx (mVar 1) (mC (.str "lying")))) (mgName 7) (asB (mBin gNe (mVar 7) (mTup mNil))) (mVar 7) [7])) mNil)) (mgName 6)) (mRet (mCall (l_law_is_2 A 8) (mCons (mNew (mLst (mCons (mMeth (A "Disk") "many_cells" (l_Disk_many_cells A) (mVar 0) mNil) (mCons (mMeth (A "Disk") "used" (l_Disk_used A) (mVar 0) mNil) (mCons (mMeth (A "Disk") "reached" (l_Disk_reached A) (mVar 0) mNil) mNil))))) (mCons (mNew (mLst (mCons (mVar 2) (mCons (mVar 6) (mCons (mBin gIx (mVar 1) (mC (.str "reached"))) mNil))))) mNil))))))))))
noncomputable def l_Disk_cut (A : Str → Addr) : MF := mDef 1 1 (mSeq (mSetFld [A "Disk"] "kept_waiting" (mVar 0) (mNewD (fun _ s => .ok [] s))) (mSetFld [A "Disk"] "kept_power" (mVar 0) (mC .non)))
noncomputable def l_law_lost (A : Str → Addr) : MF := mDef 2 1 (mSeq (mSetIx (mNew (mLc (mIt (mBin gIx (mVar 0) (mC (.str "lying")))) (mgName 1) mYes (mNew (mLst mNil)) [1])) (mVar 0) (mC (.str "waiting"))) (mSetIx (mC .non) (mVar 0) (mC (.str "power"))))
end DL
end
/-! ### DL44 -/
section
set_option linter.all false
set_option maxRecDepth 100000
/-! DL44: == of own instances without an __eq__ of their own: one and the same object or not. -/
namespace DL
open PySem PySem.Spec L2
open PyProof.Rows hiding St
section
variable {prog : Program} {w : World} {A : Around} {E : Value → Shared → Prop} {s : Shared} {K : PySem.W.Frag} {x y C : Addr} {ox oy : Obj} {od od' : Option Obj} {Q : Value → Shared → Prop}
end
variable [Tbs]
end DL
end
/-! ### LibZa -/
section
set_option linter.all false
set_option maxRecDepth 100000
set_option maxHeartbeats 4000000
namespace DL
open PySem PySem.Spec L2
open PyProof.Rows hiding St
noncomputable def l_Disk_reach_2 (A : Str → Addr) : MF := mDef 2 2 (mSeq (mDrop (mMeth (A "Disk") "check_cell" (l_Disk_check_cell A) (mVar 0) (mCons (mVar 1) mNil))) (mSeq (mIf (asB (mBin gNotIn (mVar 1) (mFld [A "Disk"] "kept_waiting" (mVar 0)))) (mRaise (A "NothingWaits")) mNext) (mDrop (mMeth (A "Disk") "reach_one" (l_Disk_reach_one A) (mVar 0) (mCons (mVar 1) mNil)))))
end DL
end
/-! ### LibZb -/
section
set_option linter.all false
set_option maxRecDepth 100000
set_option maxHeartbeats 4000000
namespace DL
open PySem PySem.Spec L2
open PyProof.Rows hiding St
noncomputable def l_law_nested (A : Str → Addr) : MF := mDef 3 1 (mSeq (mAsg (mCall (l_law_any A) (mCons (mVar 0) (mCons (mNew (mLst (mCons (mTup mNil) (mCons (mC (.int 0)) (mCons (mC (.str "a")) (mCons (mC .non) mNil)))))) mNil))) (mgName 1)) (mSeq (mFor (mRg1 (mC (.int 24))) (mgName 2) (mAsg (mIfE (asB (mBin gEq (mBin gMod (mCallB gInt (mCons (mVar 2) mNil)) (mC (.int 5))) (mC (.int 4)))) (mNew (mLst (mCons (mVar 1) mNil))) (mTup (mCons (mVar 1) mNil))) (mgName 1))) (mRet (mVar 1))))
noncomputable def l_law_is_value (A : Str → Addr) : MF := mDef 2 2 (mRet (mIfE (asB (mCallB gIsi (mCons (mVar 0) (mCons (mC (.con (.ty "int"))) mNil)))) (mIfE (asB (ofB (mNot (asB (mCallB gIsi (mCons (mVar 0) (mCons (mC (.con (.ty "bool"))) mNil))))))) (mChain gLe gLt (mC (.int 0)) (mVar 0) (mVar 1)) (mC (.bl false))) (mC (.bl false))))
noncomputable def l_law_asked_3 (A : Str → Addr) (f : Addr) (act : Act) : MF := mDef 4 1 (mSeq (mTry 2 [(A "BadDisk", true), (A "NoCell", true), (A "NoThing", true), (A "NothingWaits", true), (A "Stopped", true), (A "NoNumber", true)] (mAsg (mTup (mCons (mC (.str "told")) (mCons (mAct f 0 act) mNil))) (mgName 1)) (fun a C => (mSeq (mAsg (mNew (mLst (mCons (mCallB (gIsE (isaL [(A "BadDisk", [(.ref (A "NothingWaits"), false), (.ref (A "NoThing"), false), (.ref (A "NoCell"), false), (.ref (A "BadDisk"), true), (.ref (A "NoNumber"), false), (.ref (A "Stopped"), false), (.ty "ValueError", true)]), (A "NoCell", [(.ref (A "NothingWaits"), false), (.ref (A "NoThing"), false), (.ref (A "NoCell"), true), (.ref (A "BadDisk"), false), (.ref (A "NoNumber"), false), (.ref (A "Stopped"), false), (.ty "ValueError", true)]), (A "NoThing", [(.ref (A "NothingWaits"), false), (.ref (A "NoThing"), true), (.ref (A "NoCell"), false), (.ref (A "BadDisk"), false), (.ref (A "NoNumber"), false), (.ref (A "Stopped"), false), (.ty "ValueError", true)]), (A "NothingWaits", [(.ref (A "NothingWaits"), true), (.ref (A "NoThing"), false), (.ref (A "NoCell"), false), (.ref (A "BadDisk"), false), (.ref (A "NoNumber"), false), (.ref (A "Stopped"), false), (.ty "ValueError", true)]), (A "Stopped", [(.ref (A "NothingWaits"), false), (.ref (A "NoThing"), false), (.ref (A "NoCell"), false), (.ref (A "BadDisk"), false), (.ref (A "NoNumber"), false), (.ref (A "Stopped"), true), (.ty "ValueError", true)]), (A "NoNumber", [(.ref (A "NothingWaits"), false), (.ref (A "NoThing"), false), (.ref (A "NoCell"), false), (.ref (A "BadDisk"), false), (.ref (A "NoNumber"), true), (.ref (A "Stopped"), false), (.ty "ValueError", true)])] C) a) (mCons (mVar 2) (mCons (mC (.con (.ref (A "BadDisk")))) mNil))) (mCons (mCallB (gIsE (isaL [(A "BadDisk", [(.ref (A "NothingWaits"), false), (.ref (A "NoThing"), false), (.ref (A "NoCell"), false), (.ref (A "BadDisk"), true), (.ref (A "NoNumber"), false), (.ref (A "Stopped"), false), (.ty "ValueError", true)]), (A "NoCell", [(.ref (A "NothingWaits"), false), (.ref (A "NoThing"), false), (.ref (A "NoCell"), true), (.ref (A "BadDisk"), false), (.ref (A "NoNumber"), false), (.ref (A "Stopped"), false), (.ty "ValueError", true)]), (A "NoThing", [(.ref (A "NothingWaits"), false), (.ref (A "NoThing"), true), (.ref (A "NoCell"), false), (.ref (A "BadDisk"), false), (.ref (A "NoNumber"), false), (.ref (A "Stopped"), false), (.ty "ValueError", true)]), (A "NothingWaits", [(.ref (A "NothingWaits"), true), (.ref (A "NoThing"), false), (.ref (A "NoCell"), false), (.ref (A "BadDisk"), false), (.ref (A "NoNumber"), false), (.ref (A "Stopped"), false), (.ty "ValueError", true)]), (A "Stopped", [(.ref (A "NothingWaits"), false), (.ref (A "NoThing"), false), (.ref (A "NoCell"), false), (.ref (A "BadDisk"), false), (.ref (A "NoNumber"), false), (.ref (A "Stopped"), true), (.ty "ValueError", true)]), (A "NoNumber", [(.ref (A "NothingWaits"), false), (.ref (A "NoThing"), false), (.ref (A "NoCell"), false), (.ref (A "BadDisk"), false), (.ref (A "NoNumber"), true), (.ref (A "Stopped"), false), (.ty "ValueError", true)])] C) a) (mCons (mVar 2) (mCons (mC (.con (.ref (A "NoCell")))) mNil))) (mCons (mCallB (gIsE (isaL [(A "BadDisk", [(.ref (A "NothingWaits"), false), (.ref (A "NoThing"), false), (.ref (A "NoCell"), false), (.ref (A "BadDisk"), true), (.ref (A "NoNumber"), false), (.ref (A "Stopped"), false), (.ty "ValueError", true)]), (A "NoCell", [(.ref (A "NothingWaits"), false), (.ref (A "NoThing"), false), (.ref (A "NoCell"), true), (.ref (A "BadDisk"), false), (.ref (A "NoNumber"), false), (.ref (A "Stopped"), false), (.ty "ValueError", true)]), (A "NoThing", [(.ref (A "NothingWaits"), false), (.ref (A "NoThing"), true), (.ref (A "NoCell"), false), (.ref (A "BadDisk"), false), (.ref (A "NoNumber"), false), (.ref (A "Stopped"), false), (.ty "ValueError", true)]), (A "NothingWaits", [(.ref (A "NothingWaits"), true), (.ref (A "NoThing"), false), (.ref (A "NoCell"), false), (.ref (A "BadDisk"), false), (.ref (A "NoNumber"), false), (.ref (A "Stopped"), false), (.ty "ValueError", true)]), (A "Stopped", [(.ref (A "NothingWaits"), false), (.ref (A "NoThing"), false), (.ref (A "NoCell"), false), (.ref (A "BadDisk"), false), (.ref (A "NoNumber"), false), (.ref (A "Stopped"), true), (.ty "ValueError", true)]), (A "NoNumber", [(.ref (A "NothingWaits"), false), (.ref (A "NoThing"), false), (.ref (A "NoCell"), false), (.ref (A "BadDisk"), false), (.ref (A "NoNumber"), true), (.ref (A "Stopped"), false), (.ty "ValueError", true)])] C) a) (mCons (mVar 2) (mCons (mC (.con (.ref (A "NoThing")))) mNil))) (mCons (mCallB (gIsE (isaL [(A "BadDisk", [(.ref (A "NothingWaits"), false), (.ref (A "NoThing"), false), (.ref (A "NoCell"), false), (.ref (A "BadDisk"), true), (.ref (A "NoNumber"), false), (.ref (A "Stopped"), false), (.ty "ValueError", true)]), (A "NoCell", [(.ref (A "NothingWaits"), false), (.ref (A "NoThing"), false), (.ref (A "NoCell"), true), (.ref (A "BadDisk"), false), (.ref (A "NoNumber"), false), (.ref (A "Stopped"), false), (.ty "ValueError", true)]), (A "NoThing", [(.ref (A "NothingWaits"), false), (.ref (A "NoThing"), true), (.ref (A "NoCell"), false), (.ref (A "BadDisk"), false), (.ref (A "NoNumber"), false), (.ref (A "Stopped"), false), (.ty "ValueError", true)]), (A "NothingWaits", [(.ref (A "NothingWaits"), true), (.ref (A "NoThing"), false), (.ref (A "NoCell"), false), (.ref (A "BadDisk"), false), (.ref (A "NoNumber"), false), (.ref (A "Stopped"), false), (.ty "ValueError", true)]), (A "Stopped", [(.ref (A "NothingWaits"), false), (.ref (A "NoThing"), false), (.ref (A "NoCell"), false), (.ref (A "BadDisk"), false), (.ref (A "NoNumber"), false), (.ref (A "Stopped"), true), (.ty "ValueError", true)]), (A "NoNumber", [(.ref (A "NothingWaits"), false), (.ref (A "NoThing"), false), (.ref (A "NoCell"), false), (.ref (A "BadDisk"), false), (.ref (A "NoNumber"), true), (.ref (A "Stopped"), false), (.ty "ValueError", true)])] C) a) (mCons (mVar 2) (mCons (mC (.con (.ref (A "NothingWaits")))) mNil))) mNil)))))) (mgName 3)) (mSeq (mAsg (mBin gAdd (mVar 3) (mNew (mLst (mCons (mCallB (gIsE (isaL [(A "BadDisk", [(.ref (A "NothingWaits"), false), (.ref (A "NoThing"), false), (.ref (A "NoCell"), false), (.ref (A "BadDisk"), true), (.ref (A "NoNumber"), false), (.ref (A "Stopped"), false), (.ty "ValueError", true)]), (A "NoCell", [(.ref (A "NothingWaits"), false), (.ref (A "NoThing"), false), (.ref (A "NoCell"), true), (.ref (A "BadDisk"), false), (.ref (A "NoNumber"), false), (.ref (A "Stopped"), false), (.ty "ValueError", true)]), (A "NoThing", [(.ref (A "NothingWaits"), false), (.ref (A "NoThing"), true), (.ref (A "NoCell"), false), (.ref (A "BadDisk"), false), (.ref (A "NoNumber"), false), (.ref (A "Stopped"), false), (.ty "ValueError", true)]), (A "NothingWaits", [(.ref (A "NothingWaits"), true), (.ref (A "NoThing"), false), (.ref (A "NoCell"), false), (.ref (A "BadDisk"), false), (.ref (A "NoNumber"), false), (.ref (A "Stopped"), false), (.ty "ValueError", true)]), (A "Stopped", [(.ref (A "NothingWaits"), false), (.ref (A "NoThing"), false), (.ref (A "NoCell"), false), (.ref (A "BadDisk"), false), (.ref (A "NoNumber"), false), (.ref (A "Stopped"), true), (.ty "ValueError", true)]), (A "NoNumber", [(.ref (A "NothingWaits"), false), (.ref (A "NoThing"), false), (.ref (A "NoCell"), false), (.ref (A "BadDisk"), false), (.ref (A "NoNumber"), true), (.ref (A "Stopped"), false), (.ty "ValueError", true)])] C) a) (mCons (mVar 2) (mCons (mC (.con (.ref (A "Stopped")))) mNil))) (mCons (mCallB (gIsE (isaL [(A "BadDisk", [(.ref (A "NothingWaits"), false), (.ref (A "NoThing"), false), (.ref (A "NoCell"), false), (.ref (A "BadDisk"), true), (.ref (A "NoNumber"), false), (.ref (A "Stopped"), false), (.ty "ValueError", true)]), (A "NoCell", [(.ref (A "NothingWaits"), false), (.ref (A "NoThing"), false), (.ref (A "NoCell"), true), (.ref (A "BadDisk"), false), (.ref (A "NoNumber"), false), (.ref (A "Stopped"), false), (.ty "ValueError", true)]), (A "NoThing", [(.ref (A "NothingWaits"), false), (.ref (A "NoThing"), true), (.ref (A "NoCell"), false), (.ref (A "BadDisk"), false), (.ref (A "NoNumber"), false), (.ref (A "Stopped"), false), (.ty "ValueError", true)]), (A "NothingWaits", [(.ref (A "NothingWaits"), true), (.ref (A "NoThing"), false), (.ref (A "NoCell"), false), (.ref (A "BadDisk"), false), (.ref (A "NoNumber"), false), (.ref (A "Stopped"), false), (.ty "ValueError", true)]), (A "Stopped", [(.ref (A "NothingWaits"), false), (.ref (A "NoThing"), false), (.ref (A "NoCell"), false), (.ref (A "BadDisk"), false), (.ref (A "NoNumber"), false), (.ref (A "Stopped"), true), (.ty "ValueError", true)]), (A "NoNumber", [(.ref (A "NothingWaits"), false), (.ref (A "NoThing"), false), (.ref (A "NoCell"), false), (.ref (A "BadDisk"), false), (.ref (A "NoNumber"), true), (.ref (A "Stopped"), false), (.ty "ValueError", true)])] C) a) (mCons (mVar 2) (mCons (mC (.con (.ref (A "NoNumber")))) mNil))) mNil))))) (mgName 3)) (mSeq (mAsg (mTup (mCons (mC (.str "other")) (mCons (mC .non) mNil))) (mgName 1)) (mIf (mAnd (asB (mBin gEq (mMB gCount (mVar 3) (mCons (mC (.bl true)) mNil)) (mC (.int 1)))) (asB (mCallB (gIsE (isaL [(A "BadDisk", [(.ref (A "NothingWaits"), false), (.ref (A "NoThing"), false), (.ref (A "NoCell"), false), (.ref (A "BadDisk"), true), (.ref (A "NoNumber"), false), (.ref (A "Stopped"), false), (.ty "ValueError", true)]), (A "NoCell", [(.ref (A "NothingWaits"), false), (.ref (A "NoThing"), false), (.ref (A "NoCell"), true), (.ref (A "BadDisk"), false), (.ref (A "NoNumber"), false), (.ref (A "Stopped"), false), (.ty "ValueError", true)]), (A "NoThing", [(.ref (A "NothingWaits"), false), (.ref (A "NoThing"), true), (.ref (A "NoCell"), false), (.ref (A "BadDisk"), false), (.ref (A "NoNumber"), false), (.ref (A "Stopped"), false), (.ty "ValueError", true)]), (A "NothingWaits", [(.ref (A "NothingWaits"), true), (.ref (A "NoThing"), false), (.ref (A "NoCell"), false), (.ref (A "BadDisk"), false), (.ref (A "NoNumber"), false), (.ref (A "Stopped"), false), (.ty "ValueError", true)]), (A "Stopped", [(.ref (A "NothingWaits"), false), (.ref (A "NoThing"), false), (.ref (A "NoCell"), false), (.ref (A "BadDisk"), false), (.ref (A "NoNumber"), false), (.ref (A "Stopped"), true), (.ty "ValueError", true)]), (A "NoNumber", [(.ref (A "NothingWaits"), false), (.ref (A "NoThing"), false), (.ref (A "NoCell"), false), (.ref (A "BadDisk"), false), (.ref (A "NoNumber"), true), (.ref (A "Stopped"), false), (.ty "ValueError", true)])] C) a) (mCons (mVar 2) (mCons (mC (.con (.ty "ValueError"))) mNil))))) (mAsg (mTup (mCons (mC (.str "refused")) (mCons (mBin gIx (mNew (mLst (mCons (mC (.str "disk")) (mCons (mC (.str "cell")) (mCons (mC (.str "thing")) (mCons (mC (.str "nothing")) (mCons (mC (.str "stopped")) (mCons (mC (.str "number")) mNil)))))))) (mMB gIndex (mVar 3) (mCons (mC (.bl true)) mNil))) mNil))) (mgName 1)) mNext)))))) (mRet (mVar 1)))
noncomputable def l_Disk_init_2 (A : Str → Addr) : MF := mDef 3 2 (mSeq (mIf (mNot (asT (mCall (l_is_within A) (mCons (mVar 1) (mCons (mC (.int 1)) (mCons (mC (.int 2000)) mNil)))))) (mRaise (A "BadDisk")) mNext) (mSeq (mSetFld [A "Disk"] "kept_lying" (mVar 0) (mNew (mLc (mRg1 (mVar 1)) (mgName 2) mYes (mTup mNil) [2]))) (mSeq (mSetFld [A "Disk"] "kept_waiting" (mVar 0) (mNewD (fun _ s => .ok [] s))) (mSeq (mSetFld [A "Disk"] "kept_power" (mVar 0) (mC .non)) (mSetFld [A "Disk"] "kept_reached" (mVar 0) (mC (.int 0)))))))
noncomputable def l_Disk_check_cell_2 (A : Str → Addr) : MF := mDef 2 2 (mIf (mNot (asT (mCall (l_is_within A) (mCons (mVar 1) (mCons (mC (.int 0)) (mCons (mBin gSub (mCallB gLen (mCons (mFld [A "Disk"] "kept_lying" (mVar 0)) mNil)) (mC (.int 1))) mNil)))))) (mRaise (A "NoCell")) mNext)
noncomputable def l_Disk_write_2 (A : Str → Addr) : MF := mDef 3 3 (mSeq (mDrop (mMeth (A "Disk") "check_cell" (l_Disk_check_cell_2 A) (mVar 0) (mCons (mVar 1) mNil))) (mSeq (mIf (mNot (asT (mCall (l_is_thing A) (mCons (mVar 2) mNil)))) (mRaise (A "NoThing")) mNext) (mSetIx (mBin gAdd (mGet2 (mFld [A "Disk"] "kept_waiting" (mVar 0)) (mVar 1) (mNew (mLst mNil))) (mNew (mLst (mCons (mVar 2) mNil)))) (mFld [A "Disk"] "kept_waiting" (mVar 0)) (mVar 1))))
noncomputable def l_Disk_reach_3 (A : Str → Addr) : MF := mDef 2 2 (mSeq (mDrop (mMeth (A "Disk") "check_cell" (l_Disk_check_cell_2 A) (mVar 0) (mCons (mVar 1) mNil))) (mSeq (mIf (asB (mBin gNotIn (mVar 1) (mFld [A "Disk"] "kept_waiting" (mVar 0)))) (mRaise (A "NothingWaits")) mNext) (mDrop (mMeth (A "Disk") "reach_one" (l_Disk_reach_one A) (mVar 0) (mCons (mVar 1) mNil)))))
noncomputable def l_Disk_power_2 (A : Str → Addr) : MF := mDef 2 2 (mSeq (mIf (mAnd (asB (mBin gIsNot (mVar 1) (mC .non))) (mNot (asT (mCall (l_is_within A) (mCons (mVar 1) (mCons (mC (.int 0)) (mCons (mC (.int 1000000)) mNil))))))) (mRaise (A "NoNumber")) mNext) (mSetFld [A "Disk"] "kept_power" (mVar 0) (mVar 1)))
noncomputable def l_law_deed_2 (A : Str → Addr) : MF := mDef 9 3 (mSeq (mPar 3 4 (mCons (mCallB gLen (mCons (mBin gIx (mVar 2) (mC (.str "lying"))) mNil)) (mCons (mCall (l_law_draw A) (mCons (mVar 0) (mCons (mC (.int 12)) mNil))) mNil))) (mSeq (mAsg (mCall (l_law_draw A) (mCons (mVar 0) (mCons (mVar 3) mNil))) (mgName 5)) (mSeq (mIf (asB (mBin gLt (mVar 4) (mC (.int 5)))) (mSeq (mAsg (mCall (l_law_thing A) (mCons (mVar 0) mNil)) (mgName 6)) (mSeq (mDrop (mMB gAppend (mBin gIx (mBin gIx (mVar 2) (mC (.str "waiting"))) (mVar 5)) (mCons (mVar 6) mNil))) (mRet (mBin gEq (mLam (l_law_asked_3 A) (mMeth (A "Disk") "write" (l_Disk_write_2 A) (mVar 1) (mCons (mVar 5) (mCons (mVar 6) mNil)))) (mTup (mCons (mC (.str "told")) (mCons (mC .non) mNil))))))) mNext) (mSeq (mIf (asB (mBin gLt (mVar 4) (mC (.int 8)))) (mSeq (mIf (asB (mBin gEq (mBin gIx (mBin gIx (mVar 2) (mC (.str "waiting"))) (mVar 5)) (mNew (mLst mNil)))) (mRet (mBin gEq (mLam (l_law_asked_3 A) (mMeth (A "Disk") "reach" (l_Disk_reach_3 A) (mVar 1) (mCons (mVar 5) mNil))) (mTup (mCons (mC (.str "refused")) (mCons (mC (.str "nothing")) mNil))))) mNext) (mSeq (mAsg (mIfE (asT (mCall (l_law_reached A) (mCons (mVar 2) (mCons (mVar 5) mNil)))) (mTup (mCons (mC (.str "told")) (mCons (mC .non) mNil))) (mTup (mCons (mC (.str "refused")) (mCons (mC (.str "stopped")) mNil)))) (mgName 7)) (mRet (mBin gEq (mLam (l_law_asked_3 A) (mMeth (A "Disk") "reach" (l_Disk_reach_3 A) (mVar 1) (mCons (mVar 5) mNil))) (mVar 7))))) mNext) (mSeq (mIf (asB (mBin gEq (mVar 4) (mC (.int 8)))) (mSeq (mAsg (mIfE (asT (mCall (l_law_calmed A) (mCons (mVar 2) mNil))) (mTup (mCons (mC (.str "told")) (mCons (mC .non) mNil))) (mTup (mCons (mC (.str "refused")) (mCons (mC (.str "stopped")) mNil)))) (mgName 7)) (mRet (mBin gEq (mLam (l_law_asked_3 A) (mMeth (A "Disk") "calm" (l_Disk_calm A) (mVar 1) mNil)) (mVar 7)))) mNext) (mSeq (mIf (asB (mBin gEq (mVar 4) (mC (.int 9)))) (mSeq (mDrop (mCall (l_law_lost A) (mCons (mVar 2) mNil))) (mRet (mBin gEq (mLam (l_law_asked_3 A) (mMeth (A "Disk") "cut" (l_Disk_cut A) (mVar 1) mNil)) (mTup (mCons (mC (.str "told")) (mCons (mC .non) mNil)))))) mNext) (mSeq (mAsg (mCall (l_law_any A) (mCons (mVar 0) (mCons (mNew (mLst (mCons (mC .non) (mCons (mC (.int 0)) (mCons (mC (.int 1)) (mCons (mC (.int 2)) (mCons (mC (.int 3)) (mCons (mBin gPow (mC (.int 10)) (mC (.int 6))) mNil)))))))) mNil))) (mgName 8)) (mSeq (mSetIx (mVar 8) (mVar 2) (mC (.str "power"))) (mRet (mBin gEq (mLam (l_law_asked_3 A) (mMeth (A "Disk") "power" (l_Disk_power_2 A) (mVar 1) (mCons (mVar 8) mNil))) (mTup (mCons (mC (.str "told")) (mCons (mC .non) mNil)))))))))))))
noncomputable def l_Disk_read_2 (A : Str → Addr) : MF := mDef 2 2 (mSeq (mDrop (mMeth (A "Disk") "check_cell" (l_Disk_check_cell_2 A) (mVar 0) (mCons (mVar 1) mNil))) (mRet (mIfE (asB (mBin gIn (mVar 1) (mFld [A "Disk"] "kept_waiting" (mVar 0)))) (mBin gIx (mBin gIx (mFld [A "Disk"] "kept_waiting" (mVar 0)) (mVar 1)) (mNeg (mC (.int 1)))) (mBin gIx (mFld [A "Disk"] "kept_lying" (mVar 0)) (mVar 1)))))
noncomputable def l_Disk_lying_2 (A : Str → Addr) : MF := mDef 2 2 (mSeq (mDrop (mMeth (A "Disk") "check_cell" (l_Disk_check_cell_2 A) (mVar 0) (mCons (mVar 1) mNil))) (mRet (mBin gIx (mFld [A "Disk"] "kept_lying" (mVar 0)) (mVar 1))))
noncomputable def l_law_odd_right (A : Str → Addr) : MF := mDef 12 3 (mSeq (mAsg (mCallB gLen (mCons (mBin gIx (mVar 2) (mC (.str "lying"))) mNil)) (mgName 3)) (mSeq (mAsg (mNew (mLst (mCons (mVar 3) (mCons (mNeg (mC (.int 1))) (mCons (mC (.bl true)) (mCons (mC .non) (mCons (mC (.str "0")) (mCons (mTup (mCons (mC (.int 0)) mNil)) (mCons (mNew (mLst (mCons (mC (.int 0)) mNil))) (mCons (mBin gPow (mC (.int 10)) (mC (.int 39))) (mCons (mCall (l_law_nested A) (mCons (mVar 0) mNil)) mNil))))))))))) (mgName 4)) (mSeq (mAsg (mIfE (asB (mBin gEq (mCall (l_law_draw A) (mCons (mVar 0) (mCons (mC (.int 2)) mNil))) (mC (.int 0)))) (mCall (l_law_draw A) (mCons (mVar 0) (mCons (mVar 3) mNil))) (mCall (l_law_any A) (mCons (mVar 0) (mCons (mVar 4) mNil)))) (mgName 5)) (mSeq (mAsg (mCall (l_law_is_value A) (mCons (mVar 5) (mCons (mVar 3) mNil))) (mgName 6)) (mSeq (mAsg (mNew (mLst (mCons (mTup (mCons (mC (.int 1)) (mCons (mC (.int 2)) mNil))) (mCons (mTup (mCons (mC (.int 1)) (mCons (mC (.int 2)) (mCons (mC (.int 3)) (mCons (mC (.int 4)) mNil))))) (mCons (mTup (mCons (mC (.int 1)) (mCons (mC (.int 2)) (mCons (mBin gAdd (mBin gPow (mC (.int 10)) (mC (.int 6))) (mC (.int 1))) mNil)))) (mCons (mTup (mCons (mC (.int 1)) (mCons (mNeg (mC (.int 1))) (mCons (mC (.int 0)) mNil)))) (mCons (mTup (mCons (mC (.int 1)) (mCons (mC (.bl true)) (mCons (mC (.int 0)) mNil)))) (mCons (mNew (mLst (mCons (mC (.int 1)) (mCons (mC (.int 2)) (mCons (mC (.int 3)) mNil))))) (mCons (mNew (mLst mNil)) (mCons (mC .non) (mCons (mC (.str "abc")) mNil))))))))))) (mgName 7)) (mSeq (mAsg (mCall (l_law_any A) (mCons (mVar 0) (mCons (mBin gAdd (mVar 7) (mNew (mLst (mCons (mBin gMul (mTup (mCons (mC .non) mNil)) (mC (.int 3))) (mCons (mNewD (fun _ s => .ok [] s)) (mCons (mC (.int 0)) (mCons (mCall (l_law_nested A) (mCons (mVar 0) mNil)) mNil))))))) mNil))) (mgName 8)) (mSeq (mAsg (mCall (l_law_draw A) (mCons (mVar 0) (mCons (mC (.int 5)) mNil))) (mgName 9)) (mSeq (mIf (asB (mBin gEq (mVar 9) (mC (.int 0)))) (mRet (mBin gEq (mLam (l_law_asked_3 A) (mMeth (A "Disk") "write" (l_Disk_write_2 A) (mVar 1) (mCons (mVar 5) (mCons (mVar 8) mNil)))) (mTup (mCons (mC (.str "refused")) (mCons (mIfE (asT (mVar 6)) (mC (.str "thing")) (mC (.str "cell"))) mNil))))) mNext) (mSeq (mIf (mAnd (asB (mBin gEq (mVar 9) (mC (.int 1)))) (mNot (asT (mVar 6)))) (mRet (mBin gEq (mLam (l_law_asked_3 A) (mMeth (A "Disk") "read" (l_Disk_read_2 A) (mVar 1) (mCons (mVar 5) mNil))) (mTup (mCons (mC (.str "refused")) (mCons (mC (.str "cell")) mNil))))) mNext) (mSeq (mIf (mAnd (asB (mBin gEq (mVar 9) (mC (.int 2)))) (mNot (asT (mVar 6)))) (mRet (mBin gEq (mLam (l_law_asked_3 A) (mMeth (A "Disk") "lying" (l_Disk_lying_2 A) (mVar 1) (mCons (mVar 5) mNil))) (mTup (mCons (mC (.str "refused")) (mCons (mC (.str "cell")) mNil))))) mNext) (mSeq (mIf (asB (mBin gEq (mVar 9) (mC (.int 3)))) (mSeq (mAsg (mCall (l_law_any A) (mCons (mVar 0) (mCons (mNew (mLst (mCons (mNeg (mC (.int 1))) (mCons (mBin gAdd (mBin gPow (mC (.int 10)) (mC (.int 6))) (mC (.int 1))) (mCons (mC (.bl true)) (mCons (mC (.str "0")) (mCons (mTup (mCons (mC (.int 0)) mNil)) (mCons (mNew (mLst (mCons (mC .non) mNil))) (mCons (mBin gPow (mC (.int 10)) (mC (.int 39))) (mCons (mCall (l_law_nested A) (mCons (mVar 0) mNil)) mNil)))))))))) mNil))) (mgName 10)) (mRet (mBin gEq (mLam (l_law_asked_3 A) (mMeth (A "Disk") "power" (l_Disk_power_2 A) (mVar 1) (mCons (mVar 10) mNil))) (mTup (mCons (mC (.str "refused")) (mCons (mC (.str "number")) mNil)))))) mNext) (mSeq (mAsg (mTup (mCons (mC (.str "refused")) (mCons (mC (.str "cell")) mNil))) (mgName 11)) (mSeq (mIf (asT (mVar 6)) (mSeq (mAsg (mTup (mCons (mC (.str "refused")) (mCons (mC (.str "nothing")) mNil))) (mgName 11)) (mIf (asB (mBin gNe (mBin gIx (mBin gIx (mVar 2) (mC (.str "waiting"))) (mVar 5)) (mNew (mLst mNil)))) (mAsg (mIfE (asT (mCall (l_law_reached A) (mCons (mVar 2) (mCons (mVar 5) mNil)))) (mTup (mCons (mC (.str "told")) (mCons (mC .non) mNil))) (mTup (mCons (mC (.str "refused")) (mCons (mC (.str "stopped")) mNil)))) (mgName 11)) mNext)) mNext) (mRet (mBin gEq (mLam (l_law_asked_3 A) (mMeth (A "Disk") "reach" (l_Disk_reach_3 A) (mVar 1) (mCons (mVar 5) mNil))) (mVar 11))))))))))))))))
noncomputable def l_law_disk_is_2 (A : Str → Addr) : MF := mDef 8 2 (mSeq (mAsg (mCallB gLen (mCons (mBin gIx (mVar 1) (mC (.str "lying"))) mNil)) (mgName 2)) (mSeq (mFor (mRg1 (mVar 2)) (mgName 3) (mSeq (mIf (mNot (asT (mCall (l_law_is_2 A 8) (mCons (mMeth (A "Disk") "lying" (l_Disk_lying_2 A) (mVar 0) (mCons (mVar 3) mNil)) (mCons (mBin gIx (mBin gIx (mVar 1) (mC (.str "lying"))) (mVar 3)) mNil))))) (mRet (mC (.bl false))) mNext) (mIf (mNot (asT (mCall (l_law_is_2 A 8) (mCons (mMeth (A "Disk") "read" (l_Disk_read_2 A) (mVar 0) (mCons (mVar 3) mNil)) (mCons (mBin gIx (mBin gAdd (mNew (mLst (mCons (mBin gIx (mBin gIx (mVar 1) (mC (.str "lying"))) (mVar 3)) mNil))) (mBin gIx (mBin gIx (mVar 1) (mC (.str "waiting"))) (mVar 3))) (mNeg (mC (.int 1)))) mNil))))) (mRet (mC (.bl false))) mNext))) (mSeq (mAsg (mNewD (mDictPr (mNew (mLc (mRg1 (mVar 2)) (mgName 3) (asB (mBin gNe (mBin gIx (mBin gIx (mVar 1) (mC (.str "waiting"))) (mVar 3)) (mNew (mLst mNil)))) (mTup (mCons (mVar 3) (mCons (mCallB gLen (mCons (mBin gIx (mBin gIx (mVar 1) (mC (.str "waiting"))) (mVar 3)) mNil)) mNil))) [3])))) (mgName 4)) (mSeq (mAsg (mMeth (A "Disk") "waiting" (l_Disk_waiting A) (mVar 0) mNil) (mgName 5)) (mSeq (mIf (mOr (mNot (asB (mCallB gIsi (mCons (mVar 5) (mCons (mC (.con (.ty "dict"))) mNil))))) (mOr (asB (mBin gNeD (mVar 5) (mVar 4))) (mNot (asB (mCallF gAll (mLock (mVar 4) (mLc (mKeys (mVar 4)) (mgName 3) mYes (mCall (l_law_is_2 A 8) (mCons (mBin gIx (mVar 5) (mVar 3)) (mCons (mBin gIx (mVar 4) (mVar 3)) mNil))) [3]))))))) (mRet (mC (.bl false))) mNext) (mSeq (mAsg (mCallB gLen (mCons (mNew (mLc (mIt (mBin gIx (mVar 1) (mC (.str "lying")))) (mgName 7) (asB (mBin gNe (mVar 7) (mTup mNil))) (mVar 7) [7])) mNil)) (mgName 6)) (mRet (mCall (l_law_is_2 A 8) (mCons (mNew (mLst (mCons (mMeth (A "Disk") "many_cells" (l_Disk_many_cells A) (mVar 0) mNil) (mCons (mMeth (A "Disk") "used" (l_Disk_used A) (mVar 0) mNil) (mCons (mMeth (A "Disk") "reached" (l_Disk_reached A) (mVar 0) mNil) mNil))))) (mCons (mNew (mLst (mCons (mVar 2) (mCons (mVar 6) (mCons (mBin gIx (mVar 1) (mC (.str "reached"))) mNil))))) mNil))))))))))
end DL
end
/-! ### Mir -/
section
set_option linter.all false
set_option maxRecDepth 100000
set_option maxHeartbeats 4000000
namespace M48
open PySem PySem.Spec L2
open PyProof.Rows hiding St
open DL
noncomputable def m_law (A : Str → Addr) (ns : List Int) : MF := mDef 10 1 (mSeq (mAsg (mCallS (l_law_hand A ns)) (mgName 1)) (mSeq (mFor (mRg1 (mC (.int 3))) (mgName 2) (mSeq (mAsg (mCall (l_law_any A) (mCons (mVar 1) (mCons (mNew (mLst (mCons (mC (.int 1)) (mCons (mC (.int 2)) (mCons (mC (.int 5)) (mCons (mC (.int 2000)) (mCons (mC (.int 0)) (mCons (mC (.int 2001)) (mCons (mNeg (mC (.int 1))) (mCons (mC (.bl true)) (mCons (mC .non) (mCons (mC (.str "1")) (mCons (mTup (mCons (mC (.int 1)) mNil)) (mCons (mNew (mLst (mCons (mC (.int 1)) mNil))) (mCons (mBin gPow (mC (.int 10)) (mC (.int 39))) (mCons (mCall (l_law_nested A) (mCons (mVar 1) mNil)) mNil)))))))))))))))) mNil))) (mgName 3)) (mSeq (mAsg (mIfE (mAnd (asT (mCall (l_law_is_value A) (mCons (mVar 3) (mCons (mC (.int 2001)) mNil)))) (asB (mBin gGt (mVar 3) (mC (.int 0))))) (mC (.str "told")) (mC (.str "refused"))) (mgName 4)) (mSeq (mAsg (mLam (l_law_asked_3 A) (mMake (A "Disk") (l_Disk_init_2 A) (mCons (mVar 3) mNil))) (mgName 5)) (mSeq (mIf (mOr (asB (mBin gNe (mBin gIx (mVar 5) (mC (.int 0))) (mVar 4))) (mAnd (asB (mBin gEq (mVar 4) (mC (.str "refused")))) (asB (mBin gNe (mVar 5) (mTup (mCons (mC (.str "refused")) (mCons (mC (.str "disk")) mNil))))))) (mRet (mC (.bl false))) mNext) (mSeq (mAsg (mBin gAdd (mC (.int 1)) (mCall (l_law_draw A) (mCons (mVar 1) (mCons (mC (.int 4)) mNil)))) (mgName 6)) (mSeq (mPar 7 8 (mCons (mMake (A "Disk") (l_Disk_init_2 A) (mCons (mVar 6) mNil)) (mCons (mCall (l_law_account A) (mCons (mVar 6) mNil)) mNil))) (mSeq (mFor (mRg1 (mCall (l_law_draw A) (mCons (mVar 1) (mCons (mC (.int 8)) mNil)))) (mgName 9) (mIf (mNot (asT (mCall (l_law_deed_2 A) (mCons (mVar 1) (mCons (mVar 7) (mCons (mVar 8) mNil)))))) (mRet (mC (.bl false))) mNext)) (mFor (mRg1 (mC (.int 6))) (mgName 9) (mIf (mOr (mNot (asT (mCall (l_law_odd_right A) (mCons (mVar 1) (mCons (mVar 7) (mCons (mVar 8) mNil)))))) (mNot (asT (mCall (l_law_disk_is_2 A) (mCons (mVar 7) (mCons (mVar 8) mNil)))))) (mRet (mC (.bl false))) mNext)))))))))) (mRet (mC (.bl true)))))
end M48
end
/-! ### Der -/
section
set_option linter.all false
set_option maxRecDepth 100000
set_option maxHeartbeats 4000000
namespace M48
open PySem PySem.Spec L2
open PyProof.Rows hiding St
open DL
structure Txt (K : PySem.W.Frag) (mg : Str → Option Value) (A : Str → Addr) : Prop where
  b_abs : mg "abs" = none
  b_int : mg "int" = none
  b_len : mg "len" = none
  b_range : mg "range" = none
  b_bool : mg "bool" = none
  b_isinstance : mg "isinstance" = none
  g_BadDisk : mg "BadDisk" = some (.ref (A "BadDisk"))
  g_KeepError : mg "KeepError" = some (.ref (A "KeepError"))
  g_NoCell : mg "NoCell" = some (.ref (A "NoCell"))
  g_NoNumber : mg "NoNumber" = some (.ref (A "NoNumber"))
  g_NoThing : mg "NoThing" = some (.ref (A "NoThing"))
  g_NothingWaits : mg "NothingWaits" = some (.ref (A "NothingWaits"))
  g_Stopped : mg "Stopped" = some (.ref (A "Stopped"))
  b_ValueError : mg "ValueError" = none
  c_MOST_CELLS : ∃ t, mg "MOST_CELLS" = some (.int 2000 t)
  b_all : mg "all" = none
  c_MOST_NUMBER : ∃ t, mg "MOST_NUMBER" = some (.int 1000000 t)
  b_tuple : mg "tuple" = none
  k_Disk : Cls K (A "Disk")
  b_sorted : mg "sorted" = none
  b_list : mg "list" = none
  b_zip : mg "zip" = none
  b_dict : mg "dict" = none
  i_BadDisk_NothingWaits : PySem.W.kitOne K (.ref (A "BadDisk")) (.ref (A "NothingWaits")) = some false
  i_NoCell_NothingWaits : PySem.W.kitOne K (.ref (A "NoCell")) (.ref (A "NothingWaits")) = some false
  i_NoThing_NothingWaits : PySem.W.kitOne K (.ref (A "NoThing")) (.ref (A "NothingWaits")) = some false
  i_NothingWaits_NothingWaits : PySem.W.kitOne K (.ref (A "NothingWaits")) (.ref (A "NothingWaits")) = some true
  i_Stopped_NothingWaits : PySem.W.kitOne K (.ref (A "Stopped")) (.ref (A "NothingWaits")) = some false
  i_NoNumber_NothingWaits : PySem.W.kitOne K (.ref (A "NoNumber")) (.ref (A "NothingWaits")) = some false
  i_BadDisk_NoThing : PySem.W.kitOne K (.ref (A "BadDisk")) (.ref (A "NoThing")) = some false
  i_NoCell_NoThing : PySem.W.kitOne K (.ref (A "NoCell")) (.ref (A "NoThing")) = some false
  i_NoThing_NoThing : PySem.W.kitOne K (.ref (A "NoThing")) (.ref (A "NoThing")) = some true
  i_NothingWaits_NoThing : PySem.W.kitOne K (.ref (A "NothingWaits")) (.ref (A "NoThing")) = some false
  i_Stopped_NoThing : PySem.W.kitOne K (.ref (A "Stopped")) (.ref (A "NoThing")) = some false
  i_NoNumber_NoThing : PySem.W.kitOne K (.ref (A "NoNumber")) (.ref (A "NoThing")) = some false
  i_BadDisk_NoCell : PySem.W.kitOne K (.ref (A "BadDisk")) (.ref (A "NoCell")) = some false
  i_NoCell_NoCell : PySem.W.kitOne K (.ref (A "NoCell")) (.ref (A "NoCell")) = some true
  i_NoThing_NoCell : PySem.W.kitOne K (.ref (A "NoThing")) (.ref (A "NoCell")) = some false
  i_NothingWaits_NoCell : PySem.W.kitOne K (.ref (A "NothingWaits")) (.ref (A "NoCell")) = some false
  i_Stopped_NoCell : PySem.W.kitOne K (.ref (A "Stopped")) (.ref (A "NoCell")) = some false
  i_NoNumber_NoCell : PySem.W.kitOne K (.ref (A "NoNumber")) (.ref (A "NoCell")) = some false
  i_BadDisk_BadDisk : PySem.W.kitOne K (.ref (A "BadDisk")) (.ref (A "BadDisk")) = some true
  i_NoCell_BadDisk : PySem.W.kitOne K (.ref (A "NoCell")) (.ref (A "BadDisk")) = some false
  i_NoThing_BadDisk : PySem.W.kitOne K (.ref (A "NoThing")) (.ref (A "BadDisk")) = some false
  i_NothingWaits_BadDisk : PySem.W.kitOne K (.ref (A "NothingWaits")) (.ref (A "BadDisk")) = some false
  i_Stopped_BadDisk : PySem.W.kitOne K (.ref (A "Stopped")) (.ref (A "BadDisk")) = some false
  i_NoNumber_BadDisk : PySem.W.kitOne K (.ref (A "NoNumber")) (.ref (A "BadDisk")) = some false
  i_BadDisk_NoNumber : PySem.W.kitOne K (.ref (A "BadDisk")) (.ref (A "NoNumber")) = some false
  i_NoCell_NoNumber : PySem.W.kitOne K (.ref (A "NoCell")) (.ref (A "NoNumber")) = some false
  i_NoThing_NoNumber : PySem.W.kitOne K (.ref (A "NoThing")) (.ref (A "NoNumber")) = some false
  i_NothingWaits_NoNumber : PySem.W.kitOne K (.ref (A "NothingWaits")) (.ref (A "NoNumber")) = some false
  i_Stopped_NoNumber : PySem.W.kitOne K (.ref (A "Stopped")) (.ref (A "NoNumber")) = some false
  i_NoNumber_NoNumber : PySem.W.kitOne K (.ref (A "NoNumber")) (.ref (A "NoNumber")) = some true
  i_BadDisk_Stopped : PySem.W.kitOne K (.ref (A "BadDisk")) (.ref (A "Stopped")) = some false
  i_NoCell_Stopped : PySem.W.kitOne K (.ref (A "NoCell")) (.ref (A "Stopped")) = some false
  i_NoThing_Stopped : PySem.W.kitOne K (.ref (A "NoThing")) (.ref (A "Stopped")) = some false
  i_NothingWaits_Stopped : PySem.W.kitOne K (.ref (A "NothingWaits")) (.ref (A "Stopped")) = some false
  i_Stopped_Stopped : PySem.W.kitOne K (.ref (A "Stopped")) (.ref (A "Stopped")) = some true
  i_NoNumber_Stopped : PySem.W.kitOne K (.ref (A "NoNumber")) (.ref (A "Stopped")) = some false
  i_BadDisk_ValueError : PySem.W.kitOne K (.ref (A "BadDisk")) (.type "ValueError") = some true
  i_NoCell_ValueError : PySem.W.kitOne K (.ref (A "NoCell")) (.type "ValueError") = some true
  i_NoThing_ValueError : PySem.W.kitOne K (.ref (A "NoThing")) (.type "ValueError") = some true
  i_NothingWaits_ValueError : PySem.W.kitOne K (.ref (A "NothingWaits")) (.type "ValueError") = some true
  i_Stopped_ValueError : PySem.W.kitOne K (.ref (A "Stopped")) (.type "ValueError") = some true
  i_NoNumber_ValueError : PySem.W.kitOne K (.ref (A "NoNumber")) (.type "ValueError") = some true
  ec_NoNumber : ExcC K (A "NoNumber")
  ec_Stopped : ExcC K (A "Stopped")
  ec_NothingWaits : ExcC K (A "NothingWaits")
  ec_NoThing : ExcC K (A "NoThing")
  ec_NoCell : ExcC K (A "NoCell")
  ec_BadDisk : ExcC K (A "BadDisk")
  x_NoNumber_KeepError : PySem.W.exmOne K (.ref (A "NoNumber")) (.ref (A "KeepError")) = some true
  x_Stopped_KeepError : PySem.W.exmOne K (.ref (A "Stopped")) (.ref (A "KeepError")) = some true
  x_NothingWaits_KeepError : PySem.W.exmOne K (.ref (A "NothingWaits")) (.ref (A "KeepError")) = some true
  x_NoThing_KeepError : PySem.W.exmOne K (.ref (A "NoThing")) (.ref (A "KeepError")) = some true
  x_NoCell_KeepError : PySem.W.exmOne K (.ref (A "NoCell")) (.ref (A "KeepError")) = some true
  x_BadDisk_KeepError : PySem.W.exmOne K (.ref (A "BadDisk")) (.ref (A "KeepError")) = some true
  e_BadDisk : ErrC K (A "BadDisk")
  e_NoCell : ErrC K (A "NoCell")
  e_NoThing : ErrC K (A "NoThing")
  e_Stopped : ErrC K (A "Stopped")
  e_NothingWaits : ErrC K (A "NothingWaits")
  e_NoNumber : ErrC K (A "NoNumber")
  p_kept_lying : Plain K [A "Disk"] "kept_lying"
  p_kept_power : Plain K [A "Disk"] "kept_power"
  p_kept_reached : Plain K [A "Disk"] "kept_reached"
  p_kept_waiting : Plain K [A "Disk"] "kept_waiting"
def top (i : Nat) : Stmt := PySem.Challenge.pw_lightfirst_k48_disks_refused.main.body.getD i (.Pass ⟨0, 0, 0, 0⟩)
abbrev st_law_hand : Stmt := (top 18)
abbrev st_law_draw : Stmt := (top 19)
abbrev st_law_any : Stmt := (top 20)
abbrev st_law_nested : Stmt := (top 21)
abbrev st_law_is_value : Stmt := (top 23)
abbrev st_law_asked : Stmt := (top 30)
abbrev st_is_integer : Stmt := (top 2)
abbrev st_is_within : Stmt := (top 3)
abbrev st_Disk_init : Stmt := (inClass (top 16) 0)
abbrev st_law_account : Stmt := (top 25)
abbrev st_law_thing : Stmt := (top 24)
abbrev st_Disk_check_cell : Stmt := (inClass (top 16) 2)
abbrev st_is_thing : Stmt := (top 15)
abbrev st_Disk_write : Stmt := (inClass (top 16) 3)
abbrev st_Disk_reach_one : Stmt := (inClass (top 16) 6)
abbrev st_Disk_reach : Stmt := (inClass (top 16) 7)
abbrev st_law_reached : Stmt := (top 26)
abbrev st_law_calmed : Stmt := (top 27)
abbrev st_Disk_calm : Stmt := (inClass (top 16) 8)
abbrev st_law_lost : Stmt := (top 28)
abbrev st_Disk_cut : Stmt := (inClass (top 16) 10)
abbrev st_Disk_power : Stmt := (inClass (top 16) 9)
abbrev st_law_deed : Stmt := (top 31)
abbrev st_Disk_read : Stmt := (inClass (top 16) 4)
abbrev st_Disk_lying : Stmt := (inClass (top 16) 5)
abbrev st_law_odd_right : Stmt := (top 32)
abbrev st_law_is : Stmt := (top 22)
abbrev st_Disk_waiting : Stmt := (inClass (top 16) 11)
abbrev st_Disk_reached : Stmt := (inClass (top 16) 13)
abbrev st_Disk_used : Stmt := (inClass (top 16) 12)
abbrev st_Disk_many_cells : Stmt := (inClass (top 16) 1)
abbrev st_law_disk_is : Stmt := (top 29)
abbrev st_law : Stmt := (top 33)
section
variable {P : Program} {w : World} {K : PySem.W.Frag} {mg : Str → Option Value} {base : Heap} {A : Str → Addr}
variable [Tbs]
theorem sc_law_hand : FnScope ["_law_script", "_law_cells", "_law_cell"] ["_law_script"] (defScope st_law_hand) := ⟨rfl, rfl, rfl, by decide +kernel, rfl, by decide +kernel, by decide +kernel⟩
theorem d_law_hand (T : Txt K mg A)  {f : Addr} {fd : FuncData} (F : Fun K "_law_hand" "_law_hand" st_law_hand f fd) : FnS P w K mg base 1 f fd ["_law_script"] (l_law_hand A) :=
  fnS_D (k := 0) F sc_law_hand rfl fun ns h63 cdv Ar outer s H E hr => (pss_scr (ps_setScr (own := [("_law_cell", 2)]) (i := 1) rfl sc_law_hand.nd rfl rfl rfl (tg_name (by decide)) (pi_scr h63 (pv 0)) (blkOk_by (by kernel_rfl)) (fun _ _ _ _ _ => (pg_name (i := 2) sc_law_hand.nd rfl (Or.inl rfl))) (fun _ _ _ _ _ => dts_nil) (fun _ _ _ _ _ => (de_callB ca_abs rfl T.b_abs bt_abs (da_cons (de_callTy ca_int rfl T.b_int bt_int (da_cons (de_var 2 (pv 2)) da_nil)) da_nil)))) (dss_one (ds_ret (de_new (dl_lst (da_cons (de_var 1 (pv 1)) (da_cons de_int (da_cons de_int (da_cons (de_bin op_addD de_int (de_callB (ca_len rfl) rfl T.b_len bt_len (da_cons (de_var 1 (pv 1)) da_nil))) (da_cons de_int da_nil))))))))))
theorem sc_law_draw : FnScope ["_law_hand_here", "_law_many", "_law_cell", "_law_digit", "_law_number"] ["_law_hand_here", "_law_many"] (defScope st_law_draw) := ⟨rfl, rfl, rfl, by decide +kernel, rfl, by decide +kernel, by decide +kernel⟩
theorem d_law_draw (T : Txt K mg A)  {f : Addr} {fd : FuncData} (F : Fun K "_law_draw" "_law_draw" st_law_draw f fd) : FnD P w K mg base 1 f fd ["_law_hand_here", "_law_many"] (l_law_draw A) :=
  fn_D (k := 0) F sc_law_draw fun cdv Ar outer s H E hr => (dss_cons (ds_if (PW.pt (dw_and (dt_cmp (op_eqDD (hu64_of hr)) (de_ix (hu_of hr) (de_var 0 (pv 0)) de_int) de_int (nomark _)) (dw_and1 (dt_cmp op_ltD (de_ix (hu_of hr) (de_var 0 (pv 0)) de_int) (de_callB (ca_len rfl) rfl T.b_len bt_len (da_cons (de_ix (hu_of hr) (de_var 0 (pv 0)) de_int) da_nil)) (nomark _))))) (dss_cons (ds_set (i := 2) sc_law_draw.nd rfl (Or.inl rfl) (de_ix (hu_of hr) (de_ix (hu_of hr) (de_var 0 (pv 0)) de_int) (de_ix (hu_of hr) (de_var 0 (pv 0)) de_int))) (dss_cons (ds_setIx (hu_of hr) (de_bin op_addD (de_ix (hu_of hr) (de_var 0 (pv 0)) de_int) de_int) (de_var 0 (pv 0)) de_int) (dss_cons (ds_setIx (hu_of hr) (de_bin op_modD (de_callTy ca_int rfl T.b_int bt_int (da_cons (de_bin op_addD (de_bin op_addD (de_bin op_mulD (de_ix (hu_of hr) (de_var 0 (pv 0)) de_int) de_int) (de_var 2 (pv 2))) de_int) da_nil)) de_int) (de_var 0 (pv 0)) de_int) (dss_one (ds_if (dt_cmp op_geD (de_var 2 (pv 2)) (de_bin op_powD de_int de_int) (nomark _)) (dss_one (ds_setIx (hu_of hr) (de_var 2 (pv 2)) (de_var 0 (pv 0)) de_int)) dss_nil))))) dss_nil) (dss_cons (ds_if (dt_cmp op_gtD (de_ix (hu_of hr) (de_var 0 (pv 0)) de_int) de_int (nomark _)) (dss_cons (ds_set (i := 3) sc_law_draw.nd rfl (Or.inl rfl) (de_bin op_modD (de_callTy ca_int rfl T.b_int bt_int (da_cons (de_ix (hu_of hr) (de_var 0 (pv 0)) de_int) da_nil)) (de_var 1 (pv 1)))) (dss_cons (ds_setIx (hu_of hr) (de_bin op_fdivD (de_ix (hu_of hr) (de_var 0 (pv 0)) de_int) (de_var 1 (pv 1))) (de_var 0 (pv 0)) de_int) (dss_one (ds_ret (de_var 3 (pv 3)))))) dss_nil) (dss_cons (ds_setIx (hu_of hr) (de_bin op_addD (de_ix (hu_of hr) (de_var 0 (pv 0)) de_int) de_int) (de_var 0 (pv 0)) de_int) (dss_cons (ds_set (i := 4) sc_law_draw.nd rfl (Or.inl rfl) (de_bin op_modD (de_callTy ca_int rfl T.b_int bt_int (da_cons (de_bin op_mulD (de_callTy ca_int rfl T.b_int bt_int (da_cons (de_bin op_addD (de_ix (hu_of hr) (de_var 0 (pv 0)) de_int) (de_bin op_mulD de_int (de_ix (hu_of hr) (de_var 0 (pv 0)) de_int))) da_nil)) de_int) da_nil)) de_int)) (dss_cons (ds_set (i := 4) sc_law_draw.nd rfl (Or.inl rfl) (de_bin op_modD (de_callTy ca_int rfl T.b_int bt_int (da_cons (de_bin op_mulD (de_var 4 (pv 4)) (de_bin op_addD (de_bin op_fdivD (de_var 4 (pv 4)) de_int) de_int)) da_nil)) de_int)) (dss_cons (ds_set (i := 4) sc_law_draw.nd rfl (Or.inl rfl) (de_bin op_modD (de_callTy ca_int rfl T.b_int bt_int (da_cons (de_bin op_mulD (de_var 4 (pv 4)) (de_bin op_addD (de_bin op_fdivD (de_var 4 (pv 4)) de_int) de_int)) da_nil)) de_int)) (dss_one (ds_ret (de_bin op_modD (de_callTy ca_int rfl T.b_int bt_int (da_cons (de_bin op_fdivD (de_var 4 (pv 4)) de_int) da_nil)) (de_var 1 (pv 1)))))))))))
theorem sc_law_any : FnScope ["_law_hand_here", "_law_items"] ["_law_hand_here", "_law_items"] (defScope st_law_any) := ⟨rfl, rfl, rfl, by decide +kernel, rfl, by decide +kernel, by decide +kernel⟩
theorem d_law_any (T : Txt K mg A) (k_law_draw : Kn P w K mg base "_law_draw" 1 ["_law_hand_here", "_law_many"] (l_law_draw A)) {f : Addr} {fd : FuncData} (F : Fun K "_law_any" "_law_any" st_law_any f fd) : FnD P w K mg base 2 f fd ["_law_hand_here", "_law_items"] (l_law_any A) :=
  fn_D (k := 1) F sc_law_any fun cdv Ar outer s H E hr => (dss_one (ds_ret (de_ix (hu_of hr) (de_var 1 (pv 1)) (de_fn k_law_draw hr (by decide) (takes_of rfl rfl rfl rfl) rfl rfl (da_cons (de_var 0 (pv 0)) (da_cons (de_callB (ca_len rfl) rfl T.b_len bt_len (da_cons (de_var 1 (pv 1)) da_nil)) da_nil)) (len_cons (len_cons len_nil))))))
theorem sc_law_nested : FnScope ["_law_hand_here", "_law_thing_here", "_law_turn"] ["_law_hand_here"] (defScope st_law_nested) := ⟨rfl, rfl, rfl, by decide +kernel, rfl, by decide +kernel, by decide +kernel⟩
theorem d_law_nested (T : Txt K mg A) (k_law_any : Kn P w K mg base "_law_any" 2 ["_law_hand_here", "_law_items"] (l_law_any A)) {f : Addr} {fd : FuncData} (F : Fun K "_law_nested" "_law_nested" st_law_nested f fd) : FnD P w K mg base 3 f fd ["_law_hand_here"] (l_law_nested A) :=
  fn_D (k := 2) F sc_law_nested fun cdv Ar outer s H E hr => (dss_cons (ds_set (i := 1) sc_law_nested.nd rfl (Or.inl rfl) (de_fn k_law_any hr (by decide) (takes_of rfl rfl rfl rfl) rfl rfl (da_cons (de_var 0 (pv 0)) (da_cons (de_new (dl_lst (da_cons (de_tup da_nil) (da_cons de_int (da_cons de_str (da_cons de_non da_nil)))))) da_nil)) (len_cons (len_cons len_nil)))) (dss_cons (ds_for (vs := [2]) (passes_of rfl) rfl (di_rg1 rfl T.b_range de_int) (pg_name (i := 2) sc_law_nested.nd rfl (Or.inl rfl)) (tg_name (by decide)) (dss_one (ds_set (i := 1) sc_law_nested.nd rfl (Or.inl rfl) (de_ifExp (dt_cmp (op_eqDD (hu64_of hr)) (de_bin op_modD (de_callTy ca_int rfl T.b_int bt_int (da_cons (de_var 2 (pv 2)) da_nil)) de_int) de_int (nomark _)) (de_new (dl_lst (da_cons (de_var 1 (pv 1)) da_nil))) (de_tup (da_cons (de_var 1 (pv 1)) da_nil)))))) (dss_one (ds_ret (de_var 1 (pv 1))))))
theorem sc_law_is_value : FnScope ["_law_thing_here", "_law_many"] ["_law_thing_here", "_law_many"] (defScope st_law_is_value) := ⟨rfl, rfl, rfl, by decide +kernel, rfl, by decide +kernel, by decide +kernel⟩
theorem d_law_is_value (T : Txt K mg A)  {f : Addr} {fd : FuncData} (F : Fun K "_law_is_value" "_law_is_value" st_law_is_value f fd) : FnD P w K mg base 1 f fd ["_law_thing_here", "_law_many"] (l_law_is_value A) :=
  fn_D (k := 0) F sc_law_is_value fun cdv Ar outer s H E hr => (dss_one (ds_ret (de_and (de_callB ca_isi rfl T.b_isinstance bt_isinstance (da_cons (de_var 0 (pv 0)) (da_cons (de_ty rfl T.b_int bt_int) da_nil))) (de_and (de_not (de_callB ca_isi rfl T.b_isinstance bt_isinstance (da_cons (de_var 0 (pv 0)) (da_cons (de_ty rfl T.b_bool bt_bool) da_nil)))) (de_one (de_chain op_leD op_ltD de_int (de_var 0 (pv 0)) (de_var 1 (pv 1))))))))
theorem sc_law_asked : FnScope ["_law_ask", "_law_found", "e", "_law_flags"] ["_law_ask"] (defScope st_law_asked) := ⟨rfl, rfl, rfl, by decide +kernel, rfl, by decide +kernel, by decide +kernel⟩
theorem d_law_asked (T : Txt K mg A)  {g : Addr} {cdv : Value} : GiveB P w K mg base ["_law_ask", "_law_found", "e", "_law_flags"] "_law_asked" (defScope st_law_asked) g cdv "_law_ask" (defBody st_law_asked) 6 (fun f act => (mSeq (mTry 2 [(A "BadDisk", true), (A "NoCell", true), (A "NoThing", true), (A "NothingWaits", true), (A "Stopped", true), (A "NoNumber", true)] (mAsg (mTup (mCons (mC (.str "told")) (mCons (mAct f 0 act) mNil))) (mgName 1)) (fun a C => (mSeq (mAsg (mNew (mLst (mCons (mCallB (gIsE (isaL [(A "BadDisk", [(.ref (A "NothingWaits"), false), (.ref (A "NoThing"), false), (.ref (A "NoCell"), false), (.ref (A "BadDisk"), true), (.ref (A "NoNumber"), false), (.ref (A "Stopped"), false), (.ty "ValueError", true)]), (A "NoCell", [(.ref (A "NothingWaits"), false), (.ref (A "NoThing"), false), (.ref (A "NoCell"), true), (.ref (A "BadDisk"), false), (.ref (A "NoNumber"), false), (.ref (A "Stopped"), false), (.ty "ValueError", true)]), (A "NoThing", [(.ref (A "NothingWaits"), false), (.ref (A "NoThing"), true), (.ref (A "NoCell"), false), (.ref (A "BadDisk"), false), (.ref (A "NoNumber"), false), (.ref (A "Stopped"), false), (.ty "ValueError", true)]), (A "NothingWaits", [(.ref (A "NothingWaits"), true), (.ref (A "NoThing"), false), (.ref (A "NoCell"), false), (.ref (A "BadDisk"), false), (.ref (A "NoNumber"), false), (.ref (A "Stopped"), false), (.ty "ValueError", true)]), (A "Stopped", [(.ref (A "NothingWaits"), false), (.ref (A "NoThing"), false), (.ref (A "NoCell"), false), (.ref (A "BadDisk"), false), (.ref (A "NoNumber"), false), (.ref (A "Stopped"), true), (.ty "ValueError", true)]), (A "NoNumber", [(.ref (A "NothingWaits"), false), (.ref (A "NoThing"), false), (.ref (A "NoCell"), false), (.ref (A "BadDisk"), false), (.ref (A "NoNumber"), true), (.ref (A "Stopped"), false), (.ty "ValueError", true)])] C) a) (mCons (mVar 2) (mCons (mC (.con (.ref (A "BadDisk")))) mNil))) (mCons (mCallB (gIsE (isaL [(A "BadDisk", [(.ref (A "NothingWaits"), false), (.ref (A "NoThing"), false), (.ref (A "NoCell"), false), (.ref (A "BadDisk"), true), (.ref (A "NoNumber"), false), (.ref (A "Stopped"), false), (.ty "ValueError", true)]), (A "NoCell", [(.ref (A "NothingWaits"), false), (.ref (A "NoThing"), false), (.ref (A "NoCell"), true), (.ref (A "BadDisk"), false), (.ref (A "NoNumber"), false), (.ref (A "Stopped"), false), (.ty "ValueError", true)]), (A "NoThing", [(.ref (A "NothingWaits"), false), (.ref (A "NoThing"), true), (.ref (A "NoCell"), false), (.ref (A "BadDisk"), false), (.ref (A "NoNumber"), false), (.ref (A "Stopped"), false), (.ty "ValueError", true)]), (A "NothingWaits", [(.ref (A "NothingWaits"), true), (.ref (A "NoThing"), false), (.ref (A "NoCell"), false), (.ref (A "BadDisk"), false), (.ref (A "NoNumber"), false), (.ref (A "Stopped"), false), (.ty "ValueError", true)]), (A "Stopped", [(.ref (A "NothingWaits"), false), (.ref (A "NoThing"), false), (.ref (A "NoCell"), false), (.ref (A "BadDisk"), false), (.ref (A "NoNumber"), false), (.ref (A "Stopped"), true), (.ty "ValueError", true)]), (A "NoNumber", [(.ref (A "NothingWaits"), false), (.ref (A "NoThing"), false), (.ref (A "NoCell"), false), (.ref (A "BadDisk"), false), (.ref (A "NoNumber"), true), (.ref (A "Stopped"), false), (.ty "ValueError", true)])] C) a) (mCons (mVar 2) (mCons (mC (.con (.ref (A "NoCell")))) mNil))) (mCons (mCallB (gIsE (isaL [(A "BadDisk", [(.ref (A "NothingWaits"), false), (.ref (A "NoThing"), false), (.ref (A "NoCell"), false), (.ref (A "BadDisk"), true), (.ref (A "NoNumber"), false), (.ref (A "Stopped"), false), (.ty "ValueError", true)]), (A "NoCell", [(.ref (A "NothingWaits"), false), (.ref (A "NoThing"), false), (.ref (A "NoCell"), true), (.ref (A "BadDisk"), false), (.ref (A "NoNumber"), false), (.ref (A "Stopped"), false), (.ty "ValueError", true)]), (A "NoThing", [(.ref (A "NothingWaits"), false), (.ref (A "NoThing"), true), (.ref (A "NoCell"), false), (.ref (A "BadDisk"), false), (.ref (A "NoNumber"), false), (.ref (A "Stopped"), false), (.ty "ValueError", true)]), (A "NothingWaits", [(.ref (A "NothingWaits"), true), (.ref (A "NoThing"), false), (.ref (A "NoCell"), false), (.ref (A "BadDisk"), false), (.ref (A "NoNumber"), false), (.ref (A "Stopped"), false), (.ty "ValueError", true)]), (A "Stopped", [(.ref (A "NothingWaits"), false), (.ref (A "NoThing"), false), (.ref (A "NoCell"), false), (.ref (A "BadDisk"), false), (.ref (A "NoNumber"), false), (.ref (A "Stopped"), true), (.ty "ValueError", true)]), (A "NoNumber", [(.ref (A "NothingWaits"), false), (.ref (A "NoThing"), false), (.ref (A "NoCell"), false), (.ref (A "BadDisk"), false), (.ref (A "NoNumber"), true), (.ref (A "Stopped"), false), (.ty "ValueError", true)])] C) a) (mCons (mVar 2) (mCons (mC (.con (.ref (A "NoThing")))) mNil))) (mCons (mCallB (gIsE (isaL [(A "BadDisk", [(.ref (A "NothingWaits"), false), (.ref (A "NoThing"), false), (.ref (A "NoCell"), false), (.ref (A "BadDisk"), true), (.ref (A "NoNumber"), false), (.ref (A "Stopped"), false), (.ty "ValueError", true)]), (A "NoCell", [(.ref (A "NothingWaits"), false), (.ref (A "NoThing"), false), (.ref (A "NoCell"), true), (.ref (A "BadDisk"), false), (.ref (A "NoNumber"), false), (.ref (A "Stopped"), false), (.ty "ValueError", true)]), (A "NoThing", [(.ref (A "NothingWaits"), false), (.ref (A "NoThing"), true), (.ref (A "NoCell"), false), (.ref (A "BadDisk"), false), (.ref (A "NoNumber"), false), (.ref (A "Stopped"), false), (.ty "ValueError", true)]), (A "NothingWaits", [(.ref (A "NothingWaits"), true), (.ref (A "NoThing"), false), (.ref (A "NoCell"), false), (.ref (A "BadDisk"), false), (.ref (A "NoNumber"), false), (.ref (A "Stopped"), false), (.ty "ValueError", true)]), (A "Stopped", [(.ref (A "NothingWaits"), false), (.ref (A "NoThing"), false), (.ref (A "NoCell"), false), (.ref (A "BadDisk"), false), (.ref (A "NoNumber"), false), (.ref (A "Stopped"), true), (.ty "ValueError", true)]), (A "NoNumber", [(.ref (A "NothingWaits"), false), (.ref (A "NoThing"), false), (.ref (A "NoCell"), false), (.ref (A "BadDisk"), false), (.ref (A "NoNumber"), true), (.ref (A "Stopped"), false), (.ty "ValueError", true)])] C) a) (mCons (mVar 2) (mCons (mC (.con (.ref (A "NothingWaits")))) mNil))) mNil)))))) (mgName 3)) (mSeq (mAsg (mBin gAdd (mVar 3) (mNew (mLst (mCons (mCallB (gIsE (isaL [(A "BadDisk", [(.ref (A "NothingWaits"), false), (.ref (A "NoThing"), false), (.ref (A "NoCell"), false), (.ref (A "BadDisk"), true), (.ref (A "NoNumber"), false), (.ref (A "Stopped"), false), (.ty "ValueError", true)]), (A "NoCell", [(.ref (A "NothingWaits"), false), (.ref (A "NoThing"), false), (.ref (A "NoCell"), true), (.ref (A "BadDisk"), false), (.ref (A "NoNumber"), false), (.ref (A "Stopped"), false), (.ty "ValueError", true)]), (A "NoThing", [(.ref (A "NothingWaits"), false), (.ref (A "NoThing"), true), (.ref (A "NoCell"), false), (.ref (A "BadDisk"), false), (.ref (A "NoNumber"), false), (.ref (A "Stopped"), false), (.ty "ValueError", true)]), (A "NothingWaits", [(.ref (A "NothingWaits"), true), (.ref (A "NoThing"), false), (.ref (A "NoCell"), false), (.ref (A "BadDisk"), false), (.ref (A "NoNumber"), false), (.ref (A "Stopped"), false), (.ty "ValueError", true)]), (A "Stopped", [(.ref (A "NothingWaits"), false), (.ref (A "NoThing"), false), (.ref (A "NoCell"), false), (.ref (A "BadDisk"), false), (.ref (A "NoNumber"), false), (.ref (A "Stopped"), true), (.ty "ValueError", true)]), (A "NoNumber", [(.ref (A "NothingWaits"), false), (.ref (A "NoThing"), false), (.ref (A "NoCell"), false), (.ref (A "BadDisk"), false), (.ref (A "NoNumber"), true), (.ref (A "Stopped"), false), (.ty "ValueError", true)])] C) a) (mCons (mVar 2) (mCons (mC (.con (.ref (A "Stopped")))) mNil))) (mCons (mCallB (gIsE (isaL [(A "BadDisk", [(.ref (A "NothingWaits"), false), (.ref (A "NoThing"), false), (.ref (A "NoCell"), false), (.ref (A "BadDisk"), true), (.ref (A "NoNumber"), false), (.ref (A "Stopped"), false), (.ty "ValueError", true)]), (A "NoCell", [(.ref (A "NothingWaits"), false), (.ref (A "NoThing"), false), (.ref (A "NoCell"), true), (.ref (A "BadDisk"), false), (.ref (A "NoNumber"), false), (.ref (A "Stopped"), false), (.ty "ValueError", true)]), (A "NoThing", [(.ref (A "NothingWaits"), false), (.ref (A "NoThing"), true), (.ref (A "NoCell"), false), (.ref (A "BadDisk"), false), (.ref (A "NoNumber"), false), (.ref (A "Stopped"), false), (.ty "ValueError", true)]), (A "NothingWaits", [(.ref (A "NothingWaits"), true), (.ref (A "NoThing"), false), (.ref (A "NoCell"), false), (.ref (A "BadDisk"), false), (.ref (A "NoNumber"), false), (.ref (A "Stopped"), false), (.ty "ValueError", true)]), (A "Stopped", [(.ref (A "NothingWaits"), false), (.ref (A "NoThing"), false), (.ref (A "NoCell"), false), (.ref (A "BadDisk"), false), (.ref (A "NoNumber"), false), (.ref (A "Stopped"), true), (.ty "ValueError", true)]), (A "NoNumber", [(.ref (A "NothingWaits"), false), (.ref (A "NoThing"), false), (.ref (A "NoCell"), false), (.ref (A "BadDisk"), false), (.ref (A "NoNumber"), true), (.ref (A "Stopped"), false), (.ty "ValueError", true)])] C) a) (mCons (mVar 2) (mCons (mC (.con (.ref (A "NoNumber")))) mNil))) mNil))))) (mgName 3)) (mSeq (mAsg (mTup (mCons (mC (.str "other")) (mCons (mC .non) mNil))) (mgName 1)) (mIf (mAnd (asB (mBin gEq (mMB gCount (mVar 3) (mCons (mC (.bl true)) mNil)) (mC (.int 1)))) (asB (mCallB (gIsE (isaL [(A "BadDisk", [(.ref (A "NothingWaits"), false), (.ref (A "NoThing"), false), (.ref (A "NoCell"), false), (.ref (A "BadDisk"), true), (.ref (A "NoNumber"), false), (.ref (A "Stopped"), false), (.ty "ValueError", true)]), (A "NoCell", [(.ref (A "NothingWaits"), false), (.ref (A "NoThing"), false), (.ref (A "NoCell"), true), (.ref (A "BadDisk"), false), (.ref (A "NoNumber"), false), (.ref (A "Stopped"), false), (.ty "ValueError", true)]), (A "NoThing", [(.ref (A "NothingWaits"), false), (.ref (A "NoThing"), true), (.ref (A "NoCell"), false), (.ref (A "BadDisk"), false), (.ref (A "NoNumber"), false), (.ref (A "Stopped"), false), (.ty "ValueError", true)]), (A "NothingWaits", [(.ref (A "NothingWaits"), true), (.ref (A "NoThing"), false), (.ref (A "NoCell"), false), (.ref (A "BadDisk"), false), (.ref (A "NoNumber"), false), (.ref (A "Stopped"), false), (.ty "ValueError", true)]), (A "Stopped", [(.ref (A "NothingWaits"), false), (.ref (A "NoThing"), false), (.ref (A "NoCell"), false), (.ref (A "BadDisk"), false), (.ref (A "NoNumber"), false), (.ref (A "Stopped"), true), (.ty "ValueError", true)]), (A "NoNumber", [(.ref (A "NothingWaits"), false), (.ref (A "NoThing"), false), (.ref (A "NoCell"), false), (.ref (A "BadDisk"), false), (.ref (A "NoNumber"), true), (.ref (A "Stopped"), false), (.ty "ValueError", true)])] C) a) (mCons (mVar 2) (mCons (mC (.con (.ty "ValueError"))) mNil))))) (mAsg (mTup (mCons (mC (.str "refused")) (mCons (mBin gIx (mNew (mLst (mCons (mC (.str "disk")) (mCons (mC (.str "cell")) (mCons (mC (.str "thing")) (mCons (mC (.str "nothing")) (mCons (mC (.str "stopped")) (mCons (mC (.str "number")) mNil)))))))) (mMB gIndex (mVar 3) (mCons (mC (.bl true)) mNil))) mNil))) (mgName 1)) mNext)))))) (mRet (mVar 1)))) :=
  fun t Ar outer s H E f act hr hact => (dss_cons (ds_try_as (i := 2) rfl rfl sc_law_asked.nd rfl rfl ⟨rfl, by decide, .inl T.g_KeepError⟩ (takes_of rfl rfl rfl rfl) (cs_cons T.x_BadDisk_KeepError (cs_cons T.x_NoCell_KeepError (cs_cons T.x_NoThing_KeepError (cs_cons T.x_NothingWaits_KeepError (cs_cons T.x_Stopped_KeepError (cs_cons T.x_NoNumber_KeepError cs_nil)))))) (fun W pn xe tk po => (dss_one (ds_set (i := 1) sc_law_asked.nd rfl (Or.inl rfl) (de_tup (da_cons de_str (da_cons (hact _ _ _ _ _ tk) da_nil)))))) (fun a oe C pn hC hz hf => (dss_cons (ds_set (i := 3) sc_law_asked.nd rfl (Or.inl rfl) (de_new (dl_lst (da_cons (de_callB (ca_isE (il_cons T.ec_BadDisk (isa_own T.i_BadDisk_NothingWaits (isa_own T.i_BadDisk_NoThing (isa_own T.i_BadDisk_NoCell (isa_own T.i_BadDisk_BadDisk (isa_own T.i_BadDisk_NoNumber (isa_own T.i_BadDisk_Stopped (isa_ty T.i_BadDisk_ValueError isa_nil))))))) (il_cons T.ec_NoCell (isa_own T.i_NoCell_NothingWaits (isa_own T.i_NoCell_NoThing (isa_own T.i_NoCell_NoCell (isa_own T.i_NoCell_BadDisk (isa_own T.i_NoCell_NoNumber (isa_own T.i_NoCell_Stopped (isa_ty T.i_NoCell_ValueError isa_nil))))))) (il_cons T.ec_NoThing (isa_own T.i_NoThing_NothingWaits (isa_own T.i_NoThing_NoThing (isa_own T.i_NoThing_NoCell (isa_own T.i_NoThing_BadDisk (isa_own T.i_NoThing_NoNumber (isa_own T.i_NoThing_Stopped (isa_ty T.i_NoThing_ValueError isa_nil))))))) (il_cons T.ec_NothingWaits (isa_own T.i_NothingWaits_NothingWaits (isa_own T.i_NothingWaits_NoThing (isa_own T.i_NothingWaits_NoCell (isa_own T.i_NothingWaits_BadDisk (isa_own T.i_NothingWaits_NoNumber (isa_own T.i_NothingWaits_Stopped (isa_ty T.i_NothingWaits_ValueError isa_nil))))))) (il_cons T.ec_Stopped (isa_own T.i_Stopped_NothingWaits (isa_own T.i_Stopped_NoThing (isa_own T.i_Stopped_NoCell (isa_own T.i_Stopped_BadDisk (isa_own T.i_Stopped_NoNumber (isa_own T.i_Stopped_Stopped (isa_ty T.i_Stopped_ValueError isa_nil))))))) (il_cons T.ec_NoNumber (isa_own T.i_NoNumber_NothingWaits (isa_own T.i_NoNumber_NoThing (isa_own T.i_NoNumber_NoCell (isa_own T.i_NoNumber_BadDisk (isa_own T.i_NoNumber_NoNumber (isa_own T.i_NoNumber_Stopped (isa_ty T.i_NoNumber_ValueError isa_nil))))))) il_nil)))))) hz hf) rfl T.b_isinstance bt_isinstance (da_cons (de_var 2 (pv 2)) (da_cons (de_gref rfl T.g_BadDisk) da_nil))) (da_cons (de_callB (ca_isE (il_cons T.ec_BadDisk (isa_own T.i_BadDisk_NothingWaits (isa_own T.i_BadDisk_NoThing (isa_own T.i_BadDisk_NoCell (isa_own T.i_BadDisk_BadDisk (isa_own T.i_BadDisk_NoNumber (isa_own T.i_BadDisk_Stopped (isa_ty T.i_BadDisk_ValueError isa_nil))))))) (il_cons T.ec_NoCell (isa_own T.i_NoCell_NothingWaits (isa_own T.i_NoCell_NoThing (isa_own T.i_NoCell_NoCell (isa_own T.i_NoCell_BadDisk (isa_own T.i_NoCell_NoNumber (isa_own T.i_NoCell_Stopped (isa_ty T.i_NoCell_ValueError isa_nil))))))) (il_cons T.ec_NoThing (isa_own T.i_NoThing_NothingWaits (isa_own T.i_NoThing_NoThing (isa_own T.i_NoThing_NoCell (isa_own T.i_NoThing_BadDisk (isa_own T.i_NoThing_NoNumber (isa_own T.i_NoThing_Stopped (isa_ty T.i_NoThing_ValueError isa_nil))))))) (il_cons T.ec_NothingWaits (isa_own T.i_NothingWaits_NothingWaits (isa_own T.i_NothingWaits_NoThing (isa_own T.i_NothingWaits_NoCell (isa_own T.i_NothingWaits_BadDisk (isa_own T.i_NothingWaits_NoNumber (isa_own T.i_NothingWaits_Stopped (isa_ty T.i_NothingWaits_ValueError isa_nil))))))) (il_cons T.ec_Stopped (isa_own T.i_Stopped_NothingWaits (isa_own T.i_Stopped_NoThing (isa_own T.i_Stopped_NoCell (isa_own T.i_Stopped_BadDisk (isa_own T.i_Stopped_NoNumber (isa_own T.i_Stopped_Stopped (isa_ty T.i_Stopped_ValueError isa_nil))))))) (il_cons T.ec_NoNumber (isa_own T.i_NoNumber_NothingWaits (isa_own T.i_NoNumber_NoThing (isa_own T.i_NoNumber_NoCell (isa_own T.i_NoNumber_BadDisk (isa_own T.i_NoNumber_NoNumber (isa_own T.i_NoNumber_Stopped (isa_ty T.i_NoNumber_ValueError isa_nil))))))) il_nil)))))) hz hf) rfl T.b_isinstance bt_isinstance (da_cons (de_var 2 (pv 2)) (da_cons (de_gref rfl T.g_NoCell) da_nil))) (da_cons (de_callB (ca_isE (il_cons T.ec_BadDisk (isa_own T.i_BadDisk_NothingWaits (isa_own T.i_BadDisk_NoThing (isa_own T.i_BadDisk_NoCell (isa_own T.i_BadDisk_BadDisk (isa_own T.i_BadDisk_NoNumber (isa_own T.i_BadDisk_Stopped (isa_ty T.i_BadDisk_ValueError isa_nil))))))) (il_cons T.ec_NoCell (isa_own T.i_NoCell_NothingWaits (isa_own T.i_NoCell_NoThing (isa_own T.i_NoCell_NoCell (isa_own T.i_NoCell_BadDisk (isa_own T.i_NoCell_NoNumber (isa_own T.i_NoCell_Stopped (isa_ty T.i_NoCell_ValueError isa_nil))))))) (il_cons T.ec_NoThing (isa_own T.i_NoThing_NothingWaits (isa_own T.i_NoThing_NoThing (isa_own T.i_NoThing_NoCell (isa_own T.i_NoThing_BadDisk (isa_own T.i_NoThing_NoNumber (isa_own T.i_NoThing_Stopped (isa_ty T.i_NoThing_ValueError isa_nil))))))) (il_cons T.ec_NothingWaits (isa_own T.i_NothingWaits_NothingWaits (isa_own T.i_NothingWaits_NoThing (isa_own T.i_NothingWaits_NoCell (isa_own T.i_NothingWaits_BadDisk (isa_own T.i_NothingWaits_NoNumber (isa_own T.i_NothingWaits_Stopped (isa_ty T.i_NothingWaits_ValueError isa_nil))))))) (il_cons T.ec_Stopped (isa_own T.i_Stopped_NothingWaits (isa_own T.i_Stopped_NoThing (isa_own T.i_Stopped_NoCell (isa_own T.i_Stopped_BadDisk (isa_own T.i_Stopped_NoNumber (isa_own T.i_Stopped_Stopped (isa_ty T.i_Stopped_ValueError isa_nil))))))) (il_cons T.ec_NoNumber (isa_own T.i_NoNumber_NothingWaits (isa_own T.i_NoNumber_NoThing (isa_own T.i_NoNumber_NoCell (isa_own T.i_NoNumber_BadDisk (isa_own T.i_NoNumber_NoNumber (isa_own T.i_NoNumber_Stopped (isa_ty T.i_NoNumber_ValueError isa_nil))))))) il_nil)))))) hz hf) rfl T.b_isinstance bt_isinstance (da_cons (de_var 2 (pv 2)) (da_cons (de_gref rfl T.g_NoThing) da_nil))) (da_cons (de_callB (ca_isE (il_cons T.ec_BadDisk (isa_own T.i_BadDisk_NothingWaits (isa_own T.i_BadDisk_NoThing (isa_own T.i_BadDisk_NoCell (isa_own T.i_BadDisk_BadDisk (isa_own T.i_BadDisk_NoNumber (isa_own T.i_BadDisk_Stopped (isa_ty T.i_BadDisk_ValueError isa_nil))))))) (il_cons T.ec_NoCell (isa_own T.i_NoCell_NothingWaits (isa_own T.i_NoCell_NoThing (isa_own T.i_NoCell_NoCell (isa_own T.i_NoCell_BadDisk (isa_own T.i_NoCell_NoNumber (isa_own T.i_NoCell_Stopped (isa_ty T.i_NoCell_ValueError isa_nil))))))) (il_cons T.ec_NoThing (isa_own T.i_NoThing_NothingWaits (isa_own T.i_NoThing_NoThing (isa_own T.i_NoThing_NoCell (isa_own T.i_NoThing_BadDisk (isa_own T.i_NoThing_NoNumber (isa_own T.i_NoThing_Stopped (isa_ty T.i_NoThing_ValueError isa_nil))))))) (il_cons T.ec_NothingWaits (isa_own T.i_NothingWaits_NothingWaits (isa_own T.i_NothingWaits_NoThing (isa_own T.i_NothingWaits_NoCell (isa_own T.i_NothingWaits_BadDisk (isa_own T.i_NothingWaits_NoNumber (isa_own T.i_NothingWaits_Stopped (isa_ty T.i_NothingWaits_ValueError isa_nil))))))) (il_cons T.ec_Stopped (isa_own T.i_Stopped_NothingWaits (isa_own T.i_Stopped_NoThing (isa_own T.i_Stopped_NoCell (isa_own T.i_Stopped_BadDisk (isa_own T.i_Stopped_NoNumber (isa_own T.i_Stopped_Stopped (isa_ty T.i_Stopped_ValueError isa_nil))))))) (il_cons T.ec_NoNumber (isa_own T.i_NoNumber_NothingWaits (isa_own T.i_NoNumber_NoThing (isa_own T.i_NoNumber_NoCell (isa_own T.i_NoNumber_BadDisk (isa_own T.i_NoNumber_NoNumber (isa_own T.i_NoNumber_Stopped (isa_ty T.i_NoNumber_ValueError isa_nil))))))) il_nil)))))) hz hf) rfl T.b_isinstance bt_isinstance (da_cons (de_var 2 (pv 2)) (da_cons (de_gref rfl T.g_NothingWaits) da_nil))) da_nil))))))) (dss_cons (ds_set (i := 3) sc_law_asked.nd rfl (Or.inl rfl) (de_bin op_addD (de_var 3 (pv 3)) (de_new (dl_lst (da_cons (de_callB (ca_isE (il_cons T.ec_BadDisk (isa_own T.i_BadDisk_NothingWaits (isa_own T.i_BadDisk_NoThing (isa_own T.i_BadDisk_NoCell (isa_own T.i_BadDisk_BadDisk (isa_own T.i_BadDisk_NoNumber (isa_own T.i_BadDisk_Stopped (isa_ty T.i_BadDisk_ValueError isa_nil))))))) (il_cons T.ec_NoCell (isa_own T.i_NoCell_NothingWaits (isa_own T.i_NoCell_NoThing (isa_own T.i_NoCell_NoCell (isa_own T.i_NoCell_BadDisk (isa_own T.i_NoCell_NoNumber (isa_own T.i_NoCell_Stopped (isa_ty T.i_NoCell_ValueError isa_nil))))))) (il_cons T.ec_NoThing (isa_own T.i_NoThing_NothingWaits (isa_own T.i_NoThing_NoThing (isa_own T.i_NoThing_NoCell (isa_own T.i_NoThing_BadDisk (isa_own T.i_NoThing_NoNumber (isa_own T.i_NoThing_Stopped (isa_ty T.i_NoThing_ValueError isa_nil))))))) (il_cons T.ec_NothingWaits (isa_own T.i_NothingWaits_NothingWaits (isa_own T.i_NothingWaits_NoThing (isa_own T.i_NothingWaits_NoCell (isa_own T.i_NothingWaits_BadDisk (isa_own T.i_NothingWaits_NoNumber (isa_own T.i_NothingWaits_Stopped (isa_ty T.i_NothingWaits_ValueError isa_nil))))))) (il_cons T.ec_Stopped (isa_own T.i_Stopped_NothingWaits (isa_own T.i_Stopped_NoThing (isa_own T.i_Stopped_NoCell (isa_own T.i_Stopped_BadDisk (isa_own T.i_Stopped_NoNumber (isa_own T.i_Stopped_Stopped (isa_ty T.i_Stopped_ValueError isa_nil))))))) (il_cons T.ec_NoNumber (isa_own T.i_NoNumber_NothingWaits (isa_own T.i_NoNumber_NoThing (isa_own T.i_NoNumber_NoCell (isa_own T.i_NoNumber_BadDisk (isa_own T.i_NoNumber_NoNumber (isa_own T.i_NoNumber_Stopped (isa_ty T.i_NoNumber_ValueError isa_nil))))))) il_nil)))))) hz hf) rfl T.b_isinstance bt_isinstance (da_cons (de_var 2 (pv 2)) (da_cons (de_gref rfl T.g_Stopped) da_nil))) (da_cons (de_callB (ca_isE (il_cons T.ec_BadDisk (isa_own T.i_BadDisk_NothingWaits (isa_own T.i_BadDisk_NoThing (isa_own T.i_BadDisk_NoCell (isa_own T.i_BadDisk_BadDisk (isa_own T.i_BadDisk_NoNumber (isa_own T.i_BadDisk_Stopped (isa_ty T.i_BadDisk_ValueError isa_nil))))))) (il_cons T.ec_NoCell (isa_own T.i_NoCell_NothingWaits (isa_own T.i_NoCell_NoThing (isa_own T.i_NoCell_NoCell (isa_own T.i_NoCell_BadDisk (isa_own T.i_NoCell_NoNumber (isa_own T.i_NoCell_Stopped (isa_ty T.i_NoCell_ValueError isa_nil))))))) (il_cons T.ec_NoThing (isa_own T.i_NoThing_NothingWaits (isa_own T.i_NoThing_NoThing (isa_own T.i_NoThing_NoCell (isa_own T.i_NoThing_BadDisk (isa_own T.i_NoThing_NoNumber (isa_own T.i_NoThing_Stopped (isa_ty T.i_NoThing_ValueError isa_nil))))))) (il_cons T.ec_NothingWaits (isa_own T.i_NothingWaits_NothingWaits (isa_own T.i_NothingWaits_NoThing (isa_own T.i_NothingWaits_NoCell (isa_own T.i_NothingWaits_BadDisk (isa_own T.i_NothingWaits_NoNumber (isa_own T.i_NothingWaits_Stopped (isa_ty T.i_NothingWaits_ValueError isa_nil))))))) (il_cons T.ec_Stopped (isa_own T.i_Stopped_NothingWaits (isa_own T.i_Stopped_NoThing (isa_own T.i_Stopped_NoCell (isa_own T.i_Stopped_BadDisk (isa_own T.i_Stopped_NoNumber (isa_own T.i_Stopped_Stopped (isa_ty T.i_Stopped_ValueError isa_nil))))))) (il_cons T.ec_NoNumber (isa_own T.i_NoNumber_NothingWaits (isa_own T.i_NoNumber_NoThing (isa_own T.i_NoNumber_NoCell (isa_own T.i_NoNumber_BadDisk (isa_own T.i_NoNumber_NoNumber (isa_own T.i_NoNumber_Stopped (isa_ty T.i_NoNumber_ValueError isa_nil))))))) il_nil)))))) hz hf) rfl T.b_isinstance bt_isinstance (da_cons (de_var 2 (pv 2)) (da_cons (de_gref rfl T.g_NoNumber) da_nil))) da_nil)))))) (dss_cons (ds_set (i := 1) sc_law_asked.nd rfl (Or.inl rfl) (de_tup (da_cons de_str (da_cons de_non da_nil)))) (dss_one (ds_if (PW.pt (dw_and (dt_cmp (op_eqDD (have hu_ := hu64_of hr; hu_)) (de_bm PySem.F.slot_list_count PySem.F.type_list_count (md_count (have hu_ := hu65_of hr; hu_)) (de_var 3 (pv 3)) (da_cons de_bl da_nil)) de_int (nomark _)) (dw_and1 (dt_val (de_callB (ca_isE (il_cons T.ec_BadDisk (isa_own T.i_BadDisk_NothingWaits (isa_own T.i_BadDisk_NoThing (isa_own T.i_BadDisk_NoCell (isa_own T.i_BadDisk_BadDisk (isa_own T.i_BadDisk_NoNumber (isa_own T.i_BadDisk_Stopped (isa_ty T.i_BadDisk_ValueError isa_nil))))))) (il_cons T.ec_NoCell (isa_own T.i_NoCell_NothingWaits (isa_own T.i_NoCell_NoThing (isa_own T.i_NoCell_NoCell (isa_own T.i_NoCell_BadDisk (isa_own T.i_NoCell_NoNumber (isa_own T.i_NoCell_Stopped (isa_ty T.i_NoCell_ValueError isa_nil))))))) (il_cons T.ec_NoThing (isa_own T.i_NoThing_NothingWaits (isa_own T.i_NoThing_NoThing (isa_own T.i_NoThing_NoCell (isa_own T.i_NoThing_BadDisk (isa_own T.i_NoThing_NoNumber (isa_own T.i_NoThing_Stopped (isa_ty T.i_NoThing_ValueError isa_nil))))))) (il_cons T.ec_NothingWaits (isa_own T.i_NothingWaits_NothingWaits (isa_own T.i_NothingWaits_NoThing (isa_own T.i_NothingWaits_NoCell (isa_own T.i_NothingWaits_BadDisk (isa_own T.i_NothingWaits_NoNumber (isa_own T.i_NothingWaits_Stopped (isa_ty T.i_NothingWaits_ValueError isa_nil))))))) (il_cons T.ec_Stopped (isa_own T.i_Stopped_NothingWaits (isa_own T.i_Stopped_NoThing (isa_own T.i_Stopped_NoCell (isa_own T.i_Stopped_BadDisk (isa_own T.i_Stopped_NoNumber (isa_own T.i_Stopped_Stopped (isa_ty T.i_Stopped_ValueError isa_nil))))))) (il_cons T.ec_NoNumber (isa_own T.i_NoNumber_NothingWaits (isa_own T.i_NoNumber_NoThing (isa_own T.i_NoNumber_NoCell (isa_own T.i_NoNumber_BadDisk (isa_own T.i_NoNumber_NoNumber (isa_own T.i_NoNumber_Stopped (isa_ty T.i_NoNumber_ValueError isa_nil))))))) il_nil)))))) hz hf) rfl T.b_isinstance bt_isinstance (da_cons (de_var 2 (pv 2)) (da_cons (de_ty rfl T.b_ValueError bt_ValueError) da_nil))))))) (dss_one (ds_set (i := 1) sc_law_asked.nd rfl (Or.inl rfl) (de_tup (da_cons de_str (da_cons (de_ix (have hu_ := hu_of hr; hu_) (de_new (dl_lst (da_cons de_str (da_cons de_str (da_cons de_str (da_cons de_str (da_cons de_str (da_cons de_str da_nil)))))))) (de_bm PySem.F.slot_list_index PySem.F.type_list_index (md_index (have hu_ := hu65_of hr; hu_)) (de_var 3 (pv 3)) (da_cons de_bl da_nil))) da_nil))))) dss_nil))))))) (dss_one (ds_ret (de_var 1 (pv 1)))))
theorem sc_is_integer : FnScope ["thing"] ["thing"] (defScope st_is_integer) := ⟨rfl, rfl, rfl, by decide +kernel, rfl, by decide +kernel, by decide +kernel⟩
theorem d_is_integer (T : Txt K mg A)  {f : Addr} {fd : FuncData} (F : Fun K "is_integer" "is_integer" st_is_integer f fd) : FnD P w K mg base 1 f fd ["thing"] (l_is_integer A) :=
  fn_D (k := 0) F sc_is_integer fun cdv Ar outer s H E hr => (dss_one (ds_ret (de_and (de_callB ca_isi rfl T.b_isinstance bt_isinstance (da_cons (de_var 0 (pv 0)) (da_cons (de_ty rfl T.b_int bt_int) da_nil))) (de_one (de_not (de_callB ca_isi rfl T.b_isinstance bt_isinstance (da_cons (de_var 0 (pv 0)) (da_cons (de_ty rfl T.b_bool bt_bool) da_nil))))))))
theorem sc_is_within : FnScope ["thing", "least", "most"] ["thing", "least", "most"] (defScope st_is_within) := ⟨rfl, rfl, rfl, by decide +kernel, rfl, by decide +kernel, by decide +kernel⟩
theorem d_is_within (T : Txt K mg A) (k_is_integer : Kn P w K mg base "is_integer" 1 ["thing"] (l_is_integer A)) {f : Addr} {fd : FuncData} (F : Fun K "is_within" "is_within" st_is_within f fd) : FnD P w K mg base 2 f fd ["thing", "least", "most"] (l_is_within A) :=
  fn_D (k := 1) F sc_is_within fun cdv Ar outer s H E hr => (dss_one (ds_ret (de_and (de_fn k_is_integer hr (by decide) (takes_of rfl rfl rfl rfl) rfl rfl (da_cons (de_var 0 (pv 0)) da_nil) (len_cons len_nil)) (de_one (de_chain op_leD op_leD (de_var 1 (pv 1)) (de_var 0 (pv 0)) (de_var 2 (pv 2)))))))
theorem sc_Disk_init : FnScope ["self", "cells", "cell"] ["self", "cells"] (defScope st_Disk_init) := ⟨rfl, rfl, rfl, by decide +kernel, rfl, by decide +kernel, by decide +kernel⟩
theorem d_Disk_init (T : Txt K mg A) (k_is_within : Kn P w K mg base "is_within" 2 ["thing", "least", "most"] (l_is_within A)) {f : Addr} {fd : FuncData} (F : Fun K "__init__" "Disk.__init__" st_Disk_init f fd) : FnD P w K mg base 3 f fd ["self", "cells"] (l_Disk_init_2 A) :=
  fn_D (k := 2) F sc_Disk_init fun cdv Ar outer s H E hr => (dss_cons (ds_if (dt_not (dt_tru (de_fn k_is_within hr (by decide) (takes_of rfl rfl rfl rfl) rfl rfl (da_cons (de_var 1 (pv 1)) (da_cons de_int (da_cons (de_gi T.c_MOST_CELLS rfl) da_nil))) (len_cons (len_cons (len_cons len_nil)))))) (dss_one (ds_raise0 rfl (takes_of rfl rfl rfl rfl) T.e_BadDisk T.g_BadDisk rfl)) dss_nil) (dss_cons (ds_fld T.p_kept_lying (de_var 0 (pv 0)) (de_new (dl_lc (own := [("cell", 2)]) rfl sc_Disk_init.nd (tg_name (by decide)) (di_rg1 rfl T.b_range (de_var 1 (pv 1))) (blkOk_by (by kernel_rfl)) (fun _ _ _ _ _ => (pg_name (i := 2) sc_Disk_init.nd rfl (Or.inl rfl))) (fun _ _ _ _ _ => dts_nil) (fun _ _ _ _ _ => (de_tup da_nil))))) (dss_cons (ds_fld T.p_kept_waiting (de_var 0 (pv 0)) (de_newD dk_empty)) (dss_cons (ds_fld T.p_kept_power (de_var 0 (pv 0)) de_non) (dss_one (ds_fld T.p_kept_reached (de_var 0 (pv 0)) de_int))))))
theorem sc_law_account : FnScope ["_law_cells", "_law_cell"] ["_law_cells"] (defScope st_law_account) := ⟨rfl, rfl, rfl, by decide +kernel, rfl, by decide +kernel, by decide +kernel⟩
theorem d_law_account (T : Txt K mg A)  {f : Addr} {fd : FuncData} (F : Fun K "_law_account" "_law_account" st_law_account f fd) : FnD P w K mg base 1 f fd ["_law_cells"] (l_law_account A) :=
  fn_D (k := 0) F sc_law_account fun cdv Ar outer s H E hr => (dss_one (ds_ret (de_newD (dk_disp (dps_cons de_str (de_bin op_mulD (de_new (dl_lst (da_cons (de_tup da_nil) da_nil))) (de_var 0 (pv 0))) (dps_cons de_str (de_new (dl_lc (own := [("_law_cell", 1)]) rfl sc_law_account.nd (tg_name (by decide)) (di_rg1 rfl T.b_range (de_var 0 (pv 0))) (blkOk_by (by kernel_rfl)) (fun _ _ _ _ _ => (pg_name (i := 1) sc_law_account.nd rfl (Or.inl rfl))) (fun _ _ _ _ _ => dts_nil) (fun _ _ _ _ _ => (de_new (dl_lst da_nil))))) (dps_cons de_str de_non (dps_cons de_str de_int dps_nil))))))))
theorem sc_law_thing : FnScope ["_law_hand_here"] ["_law_hand_here"] (defScope st_law_thing) := ⟨rfl, rfl, rfl, by decide +kernel, rfl, by decide +kernel, by decide +kernel⟩
theorem d_law_thing (T : Txt K mg A) (k_law_draw : Kn P w K mg base "_law_draw" 1 ["_law_hand_here", "_law_many"] (l_law_draw A)) (k_law_any : Kn P w K mg base "_law_any" 2 ["_law_hand_here", "_law_items"] (l_law_any A)) {f : Addr} {fd : FuncData} (F : Fun K "_law_thing" "_law_thing" st_law_thing f fd) : FnD P w K mg base 3 f fd ["_law_hand_here"] (l_law_thing A) :=
  fn_D (k := 2) F sc_law_thing fun cdv Ar outer s H E hr => (dss_cons (ds_if (dt_cmp (op_eqDD (hu64_of hr)) (de_fn k_law_draw hr (by decide) (takes_of rfl rfl rfl rfl) rfl rfl (da_cons (de_var 0 (pv 0)) (da_cons de_int da_nil)) (len_cons (len_cons len_nil))) de_int (nomark _)) (dss_one (ds_ret (de_tup da_nil))) dss_nil) (dss_one (ds_ret (de_tup (da_cons (de_fn k_law_draw hr (by decide) (takes_of rfl rfl rfl rfl) rfl rfl (da_cons (de_var 0 (pv 0)) (da_cons de_int da_nil)) (len_cons (len_cons len_nil))) (da_cons (de_fn k_law_draw hr (by decide) (takes_of rfl rfl rfl rfl) rfl rfl (da_cons (de_var 0 (pv 0)) (da_cons de_int da_nil)) (len_cons (len_cons len_nil))) (da_cons (de_fn k_law_any hr (by decide) (takes_of rfl rfl rfl rfl) rfl rfl (da_cons (de_var 0 (pv 0)) (da_cons (de_new (dl_lst (da_cons de_int (da_cons de_int (da_cons de_int (da_cons (de_bin op_powD de_int de_int) (da_cons (de_fn k_law_draw hr (by decide) (takes_of rfl rfl rfl rfl) rfl rfl (da_cons (de_var 0 (pv 0)) (da_cons de_int da_nil)) (len_cons (len_cons len_nil))) da_nil))))))) da_nil)) (len_cons (len_cons len_nil))) da_nil)))))))
theorem sc_Disk_check_cell : FnScope ["self", "cell"] ["self", "cell"] (defScope st_Disk_check_cell) := ⟨rfl, rfl, rfl, by decide +kernel, rfl, by decide +kernel, by decide +kernel⟩
theorem d_Disk_check_cell (T : Txt K mg A) (k_is_within : Kn P w K mg base "is_within" 2 ["thing", "least", "most"] (l_is_within A)) {f : Addr} {fd : FuncData} (F : Fun K "check_cell" "Disk.check_cell" st_Disk_check_cell f fd) : FnD P w K mg base 3 f fd ["self", "cell"] (l_Disk_check_cell_2 A) :=
  fn_D (k := 2) F sc_Disk_check_cell fun cdv Ar outer s H E hr => (dss_one (ds_if (dt_not (dt_tru (de_fn k_is_within hr (by decide) (takes_of rfl rfl rfl rfl) rfl rfl (da_cons (de_var 1 (pv 1)) (da_cons de_int (da_cons (de_bin op_subD (de_callB (ca_len rfl) rfl T.b_len bt_len (da_cons (de_fld T.p_kept_lying (de_var 0 (pv 0))) da_nil)) de_int) da_nil))) (len_cons (len_cons (len_cons len_nil)))))) (dss_one (ds_raise0 rfl (takes_of rfl rfl rfl rfl) T.e_NoCell T.g_NoCell rfl)) dss_nil))
theorem sc_is_thing : FnScope ["thing", "one"] ["thing"] (defScope st_is_thing) := ⟨rfl, rfl, rfl, by decide +kernel, rfl, by decide +kernel, by decide +kernel⟩
theorem d_is_thing (T : Txt K mg A) (k_is_within : Kn P w K mg base "is_within" 2 ["thing", "least", "most"] (l_is_within A)) {f : Addr} {fd : FuncData} (F : Fun K "is_thing" "is_thing" st_is_thing f fd) : FnD P w K mg base 3 f fd ["thing"] (l_is_thing A) :=
  fn_D (k := 2) F sc_is_thing fun cdv Ar outer s H E hr => (dss_cons (ds_if (PW.pt (dw_or (dt_not (dt_val (de_callB ca_isi rfl T.b_isinstance bt_isinstance (da_cons (de_var 0 (pv 0)) (da_cons (de_ty rfl T.b_tuple bt_tuple) da_nil))))) (dw_or1 (dt_cmp (op_notinDD (hu65_of hr)) (de_callB (ca_len rfl) rfl T.b_len bt_len (da_cons (de_var 0 (pv 0)) da_nil)) (de_tup (da_cons de_int (da_cons de_int da_nil))) (by with_unfolding_all rfl))))) (dss_one (ds_ret de_bl)) dss_nil) (dss_one (ds_ret (de_callBF (ca_all rfl) rfl T.b_all bt_all (dl_lc (own := [("one", 1)]) rfl sc_is_thing.nd (tg_name (by decide)) (di_seq (de_var 0 (pv 0))) (blkOk_by (by kernel_rfl)) (fun _ _ _ _ _ => (pg_name (i := 1) sc_is_thing.nd rfl (Or.inl rfl))) (fun _ _ _ _ _ => dts_nil) (fun _ _ _ _ _ => (de_fn k_is_within hr (by decide) takes0 rfl rfl (da_cons (de_var 1 (pv 1)) (da_cons de_int (da_cons (de_gi T.c_MOST_NUMBER rfl) da_nil))) (len_cons (len_cons (len_cons len_nil))))))))))
theorem sc_Disk_write : FnScope ["self", "cell", "thing"] ["self", "cell", "thing"] (defScope st_Disk_write) := ⟨rfl, rfl, rfl, by decide +kernel, rfl, by decide +kernel, by decide +kernel⟩
theorem d_Disk_write (T : Txt K mg A) (k_Disk_check_cell : Km P w K mg base (A "Disk") "check_cell" 3 ["self", "cell"] (l_Disk_check_cell_2 A)) (k_is_thing : Kn P w K mg base "is_thing" 3 ["thing"] (l_is_thing A)) {f : Addr} {fd : FuncData} (F : Fun K "write" "Disk.write" st_Disk_write f fd) : FnD P w K mg base 4 f fd ["self", "cell", "thing"] (l_Disk_write_2 A) :=
  fn_D (k := 3) F sc_Disk_write fun cdv Ar outer s H E hr => (dss_cons (ds_expr (de_mt (de_var 0 (pv 0)) T.k_Disk k_Disk_check_cell hr (by decide) (takes_of rfl rfl rfl rfl) (da_cons (de_var 1 (pv 1)) da_nil) (fun r s ds s2 e => congrArg (· + 1) ((len_cons len_nil) r s ds s2 e)))) (dss_cons (ds_if (dt_not (dt_tru (de_fn k_is_thing hr (by decide) (takes_of rfl rfl rfl rfl) rfl rfl (da_cons (de_var 2 (pv 2)) da_nil) (len_cons len_nil)))) (dss_one (ds_raise0 rfl (takes_of rfl rfl rfl rfl) T.e_NoThing T.g_NoThing rfl)) dss_nil) (dss_one (ds_setIx (hu_of hr) (de_bin op_addD (de_get2 (hu_of hr) (de_fld T.p_kept_waiting (de_var 0 (pv 0))) (de_var 1 (pv 1)) (de_new (dl_lst da_nil))) (de_new (dl_lst (da_cons (de_var 2 (pv 2)) da_nil)))) (de_fld T.p_kept_waiting (de_var 0 (pv 0))) (de_var 1 (pv 1))))))
theorem sc_Disk_reach_one : FnScope ["self", "cell", "some"] ["self", "cell"] (defScope st_Disk_reach_one) := ⟨rfl, rfl, rfl, by decide +kernel, rfl, by decide +kernel, by decide +kernel⟩
theorem d_Disk_reach_one (T : Txt K mg A)  {f : Addr} {fd : FuncData} (F : Fun K "reach_one" "Disk.reach_one" st_Disk_reach_one f fd) : FnD P w K mg base 1 f fd ["self", "cell"] (l_Disk_reach_one A) :=
  fn_D (k := 0) F sc_Disk_reach_one fun cdv Ar outer s H E hr => (dss_cons (ds_if (dt_cmp op_isNotD (de_fld T.p_kept_power (de_var 0 (pv 0))) de_non (nomark _)) (dss_cons (ds_if (dt_cmp (op_eqDD (hu64_of hr)) (de_fld T.p_kept_power (de_var 0 (pv 0))) de_int (nomark _)) (dss_one (ds_raise0 rfl (takes_of rfl rfl rfl rfl) T.e_Stopped T.g_Stopped rfl)) dss_nil) (dss_one (ds_fldaug io_sub T.p_kept_power (de_var 0 (pv 0)) de_int))) dss_nil) (dss_cons (ds_set (i := 2) sc_Disk_reach_one.nd rfl (Or.inl rfl) (de_dpop1 (de_fld T.p_kept_waiting (de_var 0 (pv 0))) (de_var 1 (pv 1)))) (dss_cons (ds_setIx (hu_of hr) (de_ix (hu_of hr) (de_var 2 (pv 2)) de_int) (de_fld T.p_kept_lying (de_var 0 (pv 0))) (de_var 1 (pv 1))) (dss_cons (ds_fldaug io_add T.p_kept_reached (de_var 0 (pv 0)) de_int) (dss_one (ds_if (dt_cmp op_gtD (de_callB (ca_len rfl) rfl T.b_len bt_len (da_cons (de_var 2 (pv 2)) da_nil)) de_int (nomark _)) (dss_one (ds_setIx (hu_of hr) (de_slice (de_var 2 (pv 2)) (do_some de_int) do_none) (de_fld T.p_kept_waiting (de_var 0 (pv 0))) (de_var 1 (pv 1)))) dss_nil))))))
theorem sc_Disk_reach : FnScope ["self", "cell"] ["self", "cell"] (defScope st_Disk_reach) := ⟨rfl, rfl, rfl, by decide +kernel, rfl, by decide +kernel, by decide +kernel⟩
theorem d_Disk_reach (T : Txt K mg A) (k_Disk_check_cell : Km P w K mg base (A "Disk") "check_cell" 3 ["self", "cell"] (l_Disk_check_cell_2 A)) (k_Disk_reach_one : Km P w K mg base (A "Disk") "reach_one" 1 ["self", "cell"] (l_Disk_reach_one A)) {f : Addr} {fd : FuncData} (F : Fun K "reach" "Disk.reach" st_Disk_reach f fd) : FnD P w K mg base 4 f fd ["self", "cell"] (l_Disk_reach_3 A) :=
  fn_D (k := 3) F sc_Disk_reach fun cdv Ar outer s H E hr => (dss_cons (ds_expr (de_mt (de_var 0 (pv 0)) T.k_Disk k_Disk_check_cell hr (by decide) (takes_of rfl rfl rfl rfl) (da_cons (de_var 1 (pv 1)) da_nil) (fun r s ds s2 e => congrArg (· + 1) ((len_cons len_nil) r s ds s2 e)))) (dss_cons (ds_if (dt_cmp (op_notinDD (hu65_of hr)) (de_var 1 (pv 1)) (de_fld T.p_kept_waiting (de_var 0 (pv 0))) (by with_unfolding_all rfl)) (dss_one (ds_raise0 rfl (takes_of rfl rfl rfl rfl) T.e_NothingWaits T.g_NothingWaits rfl)) dss_nil) (dss_one (ds_expr (de_mt (de_var 0 (pv 0)) T.k_Disk k_Disk_reach_one hr (by decide) (takes_of rfl rfl rfl rfl) (da_cons (de_var 1 (pv 1)) da_nil) (fun r s ds s2 e => congrArg (· + 1) ((len_cons len_nil) r s ds s2 e)))))))
theorem sc_law_reached : FnScope ["_law_account_here", "_law_cell"] ["_law_account_here", "_law_cell"] (defScope st_law_reached) := ⟨rfl, rfl, rfl, by decide +kernel, rfl, by decide +kernel, by decide +kernel⟩
theorem d_law_reached (T : Txt K mg A)  {f : Addr} {fd : FuncData} (F : Fun K "_law_reached" "_law_reached" st_law_reached f fd) : FnD P w K mg base 1 f fd ["_law_account_here", "_law_cell"] (l_law_reached A) :=
  fn_D (k := 0) F sc_law_reached fun cdv Ar outer s H E hr => (dss_cons (ds_if (dt_cmp (op_eqDD (hu64_of hr)) (de_ix (hu_of hr) (de_var 0 (pv 0)) de_str) de_int (nomark _)) (dss_one (ds_ret de_bl)) dss_nil) (dss_cons (ds_if (dt_cmp op_isNotD (de_ix (hu_of hr) (de_var 0 (pv 0)) de_str) de_non (nomark _)) (dss_one (ds_setIx (hu_of hr) (de_bin op_subD (de_ix (hu_of hr) (de_var 0 (pv 0)) de_str) de_int) (de_var 0 (pv 0)) de_str)) dss_nil) (dss_cons (ds_setIx (hu_of hr) (de_bm PySem.F.slot_list_pop PySem.F.type_list_pop md_pop (de_ix (hu_of hr) (de_ix (hu_of hr) (de_var 0 (pv 0)) de_str) (de_var 1 (pv 1))) (da_cons de_int da_nil)) (de_ix (hu_of hr) (de_var 0 (pv 0)) de_str) (de_var 1 (pv 1))) (dss_cons (ds_setIx (hu_of hr) (de_bin op_addD (de_ix (hu_of hr) (de_var 0 (pv 0)) de_str) de_int) (de_var 0 (pv 0)) de_str) (dss_one (ds_ret de_bl))))))
theorem sc_law_calmed : FnScope ["_law_account_here", "_law_cell", "_law_turn"] ["_law_account_here"] (defScope st_law_calmed) := ⟨rfl, rfl, rfl, by decide +kernel, rfl, by decide +kernel, by decide +kernel⟩
theorem d_law_calmed (T : Txt K mg A) (k_law_reached : Kn P w K mg base "_law_reached" 1 ["_law_account_here", "_law_cell"] (l_law_reached A)) {f : Addr} {fd : FuncData} (F : Fun K "_law_calmed" "_law_calmed" st_law_calmed f fd) : FnD P w K mg base 2 f fd ["_law_account_here"] (l_law_calmed A) :=
  fn_D (k := 1) F sc_law_calmed fun cdv Ar outer s H E hr => (dss_cons (ds_for (vs := [1]) (passes_of rfl) rfl (di_rg1 rfl T.b_range (de_callB (ca_len rfl) rfl T.b_len bt_len (da_cons (de_ix (hu_of hr) (de_var 0 (pv 0)) de_str) da_nil))) (pg_name (i := 1) sc_law_calmed.nd rfl (Or.inl rfl)) (tg_name (by decide)) (dss_one (ds_for (vs := [2]) (passes_of rfl) rfl (di_rg1 rfl T.b_range (de_callB (ca_len rfl) rfl T.b_len bt_len (da_cons (de_ix (hu_of hr) (de_ix (hu_of hr) (de_var 0 (pv 0)) de_str) (de_var 1 (pv 1))) da_nil))) (pg_name (i := 2) sc_law_calmed.nd rfl (Or.inl rfl)) (tg_name (by decide)) (dss_one (ds_if (dt_not (dt_tru (de_fn k_law_reached hr (by decide) (takes_of rfl rfl rfl rfl) rfl rfl (da_cons (de_var 0 (pv 0)) (da_cons (de_var 1 (pv 1)) da_nil)) (len_cons (len_cons len_nil))))) (dss_one (ds_ret de_bl)) dss_nil))))) (dss_one (ds_ret de_bl)))
theorem sc_Disk_calm : FnScope ["self", "cell"] ["self"] (defScope st_Disk_calm) := ⟨rfl, rfl, rfl, by decide +kernel, rfl, by decide +kernel, by decide +kernel⟩
theorem d_Disk_calm (T : Txt K mg A) (k_Disk_reach_one : Km P w K mg base (A "Disk") "reach_one" 1 ["self", "cell"] (l_Disk_reach_one A)) {f : Addr} {fd : FuncData} (F : Fun K "calm" "Disk.calm" st_Disk_calm f fd) : FnD P w K mg base 2 f fd ["self"] (l_Disk_calm A) :=
  fn_D (k := 1) F sc_Disk_calm fun cdv Ar outer s H E hr => (dss_one (ds_for (vs := [1]) (passes_of rfl) rfl (di_seq (de_new (dl_callB (ca_srt rfl) rfl T.b_sorted bt_sorted (da_cons (de_fld T.p_kept_waiting (de_var 0 (pv 0))) da_nil)))) (pg_name (i := 1) sc_Disk_calm.nd rfl (Or.inl rfl)) (tg_name (by decide)) (dss_one (ds_while (passes_of rfl) (dt_cmp (op_inDD (hu65_of hr)) (de_var 1 (pv 1)) (de_fld T.p_kept_waiting (de_var 0 (pv 0))) (by with_unfolding_all rfl)) (dss_one (ds_expr (de_mt (de_var 0 (pv 0)) T.k_Disk k_Disk_reach_one hr (by decide) (takes_of rfl rfl rfl rfl) (da_cons (de_var 1 (pv 1)) da_nil) (fun r s ds s2 e => congrArg (· + 1) ((len_cons len_nil) r s ds s2 e)))))))))
theorem sc_law_lost : FnScope ["_law_account_here", "_law_cell"] ["_law_account_here"] (defScope st_law_lost) := ⟨rfl, rfl, rfl, by decide +kernel, rfl, by decide +kernel, by decide +kernel⟩
theorem d_law_lost (T : Txt K mg A)  {f : Addr} {fd : FuncData} (F : Fun K "_law_lost" "_law_lost" st_law_lost f fd) : FnD P w K mg base 1 f fd ["_law_account_here"] (l_law_lost A) :=
  fn_D (k := 0) F sc_law_lost fun cdv Ar outer s H E hr => (dss_cons (ds_setIx (hu_of hr) (de_new (dl_lc (own := [("_law_cell", 1)]) rfl sc_law_lost.nd (tg_name (by decide)) (di_seq (de_ix (hu_of hr) (de_var 0 (pv 0)) de_str)) (blkOk_by (by kernel_rfl)) (fun _ _ _ _ _ => (pg_name (i := 1) sc_law_lost.nd rfl (Or.inl rfl))) (fun _ _ _ _ _ => dts_nil) (fun _ _ _ _ _ => (de_new (dl_lst da_nil))))) (de_var 0 (pv 0)) de_str) (dss_one (ds_setIx (hu_of hr) de_non (de_var 0 (pv 0)) de_str)))
theorem sc_Disk_cut : FnScope ["self"] ["self"] (defScope st_Disk_cut) := ⟨rfl, rfl, rfl, by decide +kernel, rfl, by decide +kernel, by decide +kernel⟩
theorem d_Disk_cut (T : Txt K mg A)  {f : Addr} {fd : FuncData} (F : Fun K "cut" "Disk.cut" st_Disk_cut f fd) : FnD P w K mg base 1 f fd ["self"] (l_Disk_cut A) :=
  fn_D (k := 0) F sc_Disk_cut fun cdv Ar outer s H E hr => (dss_cons (ds_fld T.p_kept_waiting (de_var 0 (pv 0)) (de_newD dk_empty)) (dss_one (ds_fld T.p_kept_power (de_var 0 (pv 0)) de_non)))
theorem sc_Disk_power : FnScope ["self", "many"] ["self", "many"] (defScope st_Disk_power) := ⟨rfl, rfl, rfl, by decide +kernel, rfl, by decide +kernel, by decide +kernel⟩
theorem d_Disk_power (T : Txt K mg A) (k_is_within : Kn P w K mg base "is_within" 2 ["thing", "least", "most"] (l_is_within A)) {f : Addr} {fd : FuncData} (F : Fun K "power" "Disk.power" st_Disk_power f fd) : FnD P w K mg base 3 f fd ["self", "many"] (l_Disk_power_2 A) :=
  fn_D (k := 2) F sc_Disk_power fun cdv Ar outer s H E hr => (dss_cons (ds_if (PW.pt (dw_and (dt_cmp op_isNotD (de_var 1 (pv 1)) de_non (nomark _)) (dw_and1 (dt_not (dt_tru (de_fn k_is_within hr (by decide) (takes_of rfl rfl rfl rfl) rfl rfl (da_cons (de_var 1 (pv 1)) (da_cons de_int (da_cons (de_gi T.c_MOST_NUMBER rfl) da_nil))) (len_cons (len_cons (len_cons len_nil))))))))) (dss_one (ds_raise0 rfl (takes_of rfl rfl rfl rfl) T.e_NoNumber T.g_NoNumber rfl)) dss_nil) (dss_one (ds_fld T.p_kept_power (de_var 0 (pv 0)) (de_var 1 (pv 1)))))
theorem sc_law_deed : FnScope ["_law_hand_here", "_law_disk", "_law_account_here", "_law_cells", "_law_kind", "_law_cell", "_law_thing_here", "_law_due", "_law_many"] ["_law_hand_here", "_law_disk", "_law_account_here"] (defScope st_law_deed) := ⟨rfl, rfl, rfl, by decide +kernel, rfl, by decide +kernel, by decide +kernel⟩
theorem d_law_deed (T : Txt K mg A) (k_law_draw : Kn P w K mg base "_law_draw" 1 ["_law_hand_here", "_law_many"] (l_law_draw A)) (k_law_thing : Kn P w K mg base "_law_thing" 3 ["_law_hand_here"] (l_law_thing A)) (k_law_asked : Kl P w K mg base "_law_asked" 6 (l_law_asked_3 A)) (k_Disk_write : Km P w K mg base (A "Disk") "write" 4 ["self", "cell", "thing"] (l_Disk_write_2 A)) (k_Disk_reach : Km P w K mg base (A "Disk") "reach" 4 ["self", "cell"] (l_Disk_reach_3 A)) (k_law_reached : Kn P w K mg base "_law_reached" 1 ["_law_account_here", "_law_cell"] (l_law_reached A)) (k_law_calmed : Kn P w K mg base "_law_calmed" 2 ["_law_account_here"] (l_law_calmed A)) (k_Disk_calm : Km P w K mg base (A "Disk") "calm" 2 ["self"] (l_Disk_calm A)) (k_law_lost : Kn P w K mg base "_law_lost" 1 ["_law_account_here"] (l_law_lost A)) (k_Disk_cut : Km P w K mg base (A "Disk") "cut" 1 ["self"] (l_Disk_cut A)) (k_law_any : Kn P w K mg base "_law_any" 2 ["_law_hand_here", "_law_items"] (l_law_any A)) (k_Disk_power : Km P w K mg base (A "Disk") "power" 3 ["self", "many"] (l_Disk_power_2 A)) (kl_Disk_write : ∀ [t2 : Tbs], Km P w K mg base (A "Disk") "write" 4 ["self", "cell", "thing"] (l_Disk_write_2 A))  (kl_Disk_reach : ∀ [t2 : Tbs], Km P w K mg base (A "Disk") "reach" 4 ["self", "cell"] (l_Disk_reach_3 A))  (kl_Disk_calm : ∀ [t2 : Tbs], Km P w K mg base (A "Disk") "calm" 2 ["self"] (l_Disk_calm A))  (kl_Disk_cut : ∀ [t2 : Tbs], Km P w K mg base (A "Disk") "cut" 1 ["self"] (l_Disk_cut A))  (kl_Disk_power : ∀ [t2 : Tbs], Km P w K mg base (A "Disk") "power" 3 ["self", "many"] (l_Disk_power_2 A)) {f : Addr} {fd : FuncData} (F : Fun K "_law_deed" "_law_deed" st_law_deed f fd) (L : LamOf base mg fd.code "_law_deed") : FnD P w K mg base 8 f fd ["_law_hand_here", "_law_disk", "_law_account_here"] (l_law_deed_2 A) :=
  fn_DC (k := 7) F sc_law_deed L fun cdv Ar outer s H E L hr => (dss_cons (ds_par (i := 3) (j := 4) rfl sc_law_deed.nd rfl rfl (by decide) rfl rfl (da_cons (de_callB (ca_len rfl) rfl T.b_len bt_len (da_cons (de_ix (hu_of hr) (de_var 2 (pv 2)) de_str) da_nil)) (da_cons (de_fn k_law_draw hr (by decide) (takes_of rfl rfl rfl rfl) rfl rfl (da_cons (de_var 0 (pv 0)) (da_cons de_int da_nil)) (len_cons (len_cons len_nil))) da_nil)) rfl) (dss_cons (ds_set (i := 5) sc_law_deed.nd rfl (Or.inr rfl) (de_fn k_law_draw hr (by decide) (takes_of rfl rfl rfl rfl) rfl rfl (da_cons (de_var 0 (pv 0)) (da_cons (de_var 3 (pv 3)) da_nil)) (len_cons (len_cons len_nil)))) (dss_cons (ds_if (dt_cmp op_ltD (de_var 4 (pv 4)) de_int (nomark _)) (dss_cons (ds_set (i := 6) sc_law_deed.nd rfl (Or.inr rfl) (de_fn k_law_thing hr (by decide) (takes_of rfl rfl rfl rfl) rfl rfl (da_cons (de_var 0 (pv 0)) da_nil) (len_cons len_nil))) (dss_cons (ds_expr (de_bm PySem.F.slot_list_append PySem.F.type_list_append md_append (de_ix (hu_of hr) (de_ix (hu_of hr) (de_var 2 (pv 2)) de_str) (de_var 5 (pv 5))) (da_cons (de_var 6 (pv 6)) da_nil))) (dss_one (ds_ret (de_cmp (op_eqDD (hu64_of hr)) (de_lamc L rfl k_law_asked rfl hr (by decide) (takes_of rfl rfl rfl rfl) (LamX.lamS_by (by kernel_rfl)) rfl (fun _ _ _ _ _ => rfl) 5 (by decide) (fun t2 Ar2 outer2 s2 H2 E2 f2 c2 hr => (de_mt (de_var 1 (pv 1)) T.k_Disk kl_Disk_write hr (by decide) (takes_of rfl rfl rfl rfl) (da_cons (de_var 5 (pv 5)) (da_cons (de_var 6 (pv 6)) da_nil)) (fun r s ds s2 e => congrArg (· + 1) ((len_cons (len_cons len_nil)) r s ds s2 e))))) (de_tup (da_cons de_str (da_cons de_non da_nil))) (nomark _)))))) dss_nil) (dss_cons (ds_if (dt_cmp op_ltD (de_var 4 (pv 4)) de_int (nomark _)) (dss_cons (ds_if (dt_cmp (op_eqDD (hu64_of hr)) (de_ix (hu_of hr) (de_ix (hu_of hr) (de_var 2 (pv 2)) de_str) (de_var 5 (pv 5))) (de_new (dl_lst da_nil)) (nomark _)) (dss_one (ds_ret (de_cmp (op_eqDD (hu64_of hr)) (de_lamc L rfl k_law_asked rfl hr (by decide) (takes_of rfl rfl rfl rfl) (LamX.lamS_by (by kernel_rfl)) rfl (fun _ _ _ _ _ => rfl) 5 (by decide) (fun t2 Ar2 outer2 s2 H2 E2 f2 c2 hr => (de_mt (de_var 1 (pv 1)) T.k_Disk kl_Disk_reach hr (by decide) (takes_of rfl rfl rfl rfl) (da_cons (de_var 5 (pv 5)) da_nil) (fun r s ds s2 e => congrArg (· + 1) ((len_cons len_nil) r s ds s2 e))))) (de_tup (da_cons de_str (da_cons de_str da_nil))) (nomark _)))) dss_nil) (dss_cons (ds_set (i := 7) sc_law_deed.nd rfl (Or.inl rfl) (de_ifExp (dt_tru (de_fn k_law_reached hr (by decide) (takes_of rfl rfl rfl rfl) rfl rfl (da_cons (de_var 2 (pv 2)) (da_cons (de_var 5 (pv 5)) da_nil)) (len_cons (len_cons len_nil)))) (de_tup (da_cons de_str (da_cons de_non da_nil))) (de_tup (da_cons de_str (da_cons de_str da_nil))))) (dss_one (ds_ret (de_cmp (op_eqDD (hu64_of hr)) (de_lamc L rfl k_law_asked rfl hr (by decide) (takes_of rfl rfl rfl rfl) (LamX.lamS_by (by kernel_rfl)) rfl (fun _ _ _ _ _ => rfl) 5 (by decide) (fun t2 Ar2 outer2 s2 H2 E2 f2 c2 hr => (de_mt (de_var 1 (pv 1)) T.k_Disk kl_Disk_reach hr (by decide) (takes_of rfl rfl rfl rfl) (da_cons (de_var 5 (pv 5)) da_nil) (fun r s ds s2 e => congrArg (· + 1) ((len_cons len_nil) r s ds s2 e))))) (de_var 7 (pv 7)) (nomark _)))))) dss_nil) (dss_cons (ds_if (dt_cmp (op_eqDD (hu64_of hr)) (de_var 4 (pv 4)) de_int (nomark _)) (dss_cons (ds_set (i := 7) sc_law_deed.nd rfl (Or.inl rfl) (de_ifExp (dt_tru (de_fn k_law_calmed hr (by decide) (takes_of rfl rfl rfl rfl) rfl rfl (da_cons (de_var 2 (pv 2)) da_nil) (len_cons len_nil))) (de_tup (da_cons de_str (da_cons de_non da_nil))) (de_tup (da_cons de_str (da_cons de_str da_nil))))) (dss_one (ds_ret (de_cmp (op_eqDD (hu64_of hr)) (de_lamc L rfl k_law_asked rfl hr (by decide) (takes_of rfl rfl rfl rfl) (LamX.lamS_by (by kernel_rfl)) rfl (fun _ _ _ _ _ => rfl) 5 (by decide) (fun t2 Ar2 outer2 s2 H2 E2 f2 c2 hr => (de_mt0 (de_var 1 (pv 1)) T.k_Disk kl_Disk_calm hr (by decide) (takes_of rfl rfl rfl rfl) rfl))) (de_var 7 (pv 7)) (nomark _))))) dss_nil) (dss_cons (ds_if (dt_cmp (op_eqDD (hu64_of hr)) (de_var 4 (pv 4)) de_int (nomark _)) (dss_cons (ds_expr (de_fn k_law_lost hr (by decide) (takes_of rfl rfl rfl rfl) rfl rfl (da_cons (de_var 2 (pv 2)) da_nil) (len_cons len_nil))) (dss_one (ds_ret (de_cmp (op_eqDD (hu64_of hr)) (de_lamc L rfl k_law_asked rfl hr (by decide) (takes_of rfl rfl rfl rfl) (LamX.lamS_by (by kernel_rfl)) rfl (fun _ _ _ _ _ => rfl) 5 (by decide) (fun t2 Ar2 outer2 s2 H2 E2 f2 c2 hr => (de_mt0 (de_var 1 (pv 1)) T.k_Disk kl_Disk_cut hr (by decide) (takes_of rfl rfl rfl rfl) rfl))) (de_tup (da_cons de_str (da_cons de_non da_nil))) (nomark _))))) dss_nil) (dss_cons (ds_set (i := 8) sc_law_deed.nd rfl (Or.inr rfl) (de_fn k_law_any hr (by decide) (takes_of rfl rfl rfl rfl) rfl rfl (da_cons (de_var 0 (pv 0)) (da_cons (de_new (dl_lst (da_cons de_non (da_cons de_int (da_cons de_int (da_cons de_int (da_cons de_int (da_cons (de_bin op_powD de_int de_int) da_nil)))))))) da_nil)) (len_cons (len_cons len_nil)))) (dss_cons (ds_setIx (hu_of hr) (de_var 8 (pv 8)) (de_var 2 (pv 2)) de_str) (dss_one (ds_ret (de_cmp (op_eqDD (hu64_of hr)) (de_lamc L rfl k_law_asked rfl hr (by decide) (takes_of rfl rfl rfl rfl) (LamX.lamS_by (by kernel_rfl)) rfl (fun _ _ _ _ _ => rfl) 5 (by decide) (fun t2 Ar2 outer2 s2 H2 E2 f2 c2 hr => (de_mt (de_var 1 (pv 1)) T.k_Disk kl_Disk_power hr (by decide) (takes_of rfl rfl rfl rfl) (da_cons (de_var 8 (pv 8)) da_nil) (fun r s ds s2 e => congrArg (· + 1) ((len_cons len_nil) r s ds s2 e))))) (de_tup (da_cons de_str (da_cons de_non da_nil))) (nomark _))))))))))))
theorem sc_Disk_read : FnScope ["self", "cell"] ["self", "cell"] (defScope st_Disk_read) := ⟨rfl, rfl, rfl, by decide +kernel, rfl, by decide +kernel, by decide +kernel⟩
theorem d_Disk_read (T : Txt K mg A) (k_Disk_check_cell : Km P w K mg base (A "Disk") "check_cell" 3 ["self", "cell"] (l_Disk_check_cell_2 A)) {f : Addr} {fd : FuncData} (F : Fun K "read" "Disk.read" st_Disk_read f fd) : FnD P w K mg base 4 f fd ["self", "cell"] (l_Disk_read_2 A) :=
  fn_D (k := 3) F sc_Disk_read fun cdv Ar outer s H E hr => (dss_cons (ds_expr (de_mt (de_var 0 (pv 0)) T.k_Disk k_Disk_check_cell hr (by decide) (takes_of rfl rfl rfl rfl) (da_cons (de_var 1 (pv 1)) da_nil) (fun r s ds s2 e => congrArg (· + 1) ((len_cons len_nil) r s ds s2 e)))) (dss_one (ds_ret (de_ifExp (dt_cmp (op_inDD (hu65_of hr)) (de_var 1 (pv 1)) (de_fld T.p_kept_waiting (de_var 0 (pv 0))) (by with_unfolding_all rfl)) (de_ix (hu_of hr) (de_ix (hu_of hr) (de_fld T.p_kept_waiting (de_var 0 (pv 0))) (de_var 1 (pv 1))) (de_neg de_int)) (de_ix (hu_of hr) (de_fld T.p_kept_lying (de_var 0 (pv 0))) (de_var 1 (pv 1)))))))
theorem sc_Disk_lying : FnScope ["self", "cell"] ["self", "cell"] (defScope st_Disk_lying) := ⟨rfl, rfl, rfl, by decide +kernel, rfl, by decide +kernel, by decide +kernel⟩
theorem d_Disk_lying (T : Txt K mg A) (k_Disk_check_cell : Km P w K mg base (A "Disk") "check_cell" 3 ["self", "cell"] (l_Disk_check_cell_2 A)) {f : Addr} {fd : FuncData} (F : Fun K "lying" "Disk.lying" st_Disk_lying f fd) : FnD P w K mg base 4 f fd ["self", "cell"] (l_Disk_lying_2 A) :=
  fn_D (k := 3) F sc_Disk_lying fun cdv Ar outer s H E hr => (dss_cons (ds_expr (de_mt (de_var 0 (pv 0)) T.k_Disk k_Disk_check_cell hr (by decide) (takes_of rfl rfl rfl rfl) (da_cons (de_var 1 (pv 1)) da_nil) (fun r s ds s2 e => congrArg (· + 1) ((len_cons len_nil) r s ds s2 e)))) (dss_one (ds_ret (de_ix (hu_of hr) (de_fld T.p_kept_lying (de_var 0 (pv 0))) (de_var 1 (pv 1))))))
theorem sc_law_odd_right : FnScope ["_law_hand_here", "_law_disk", "_law_account_here", "_law_cells", "_law_odd", "_law_cell", "_law_is_cell", "_law_things", "_law_bad", "_law_kind", "_law_many", "_law_due"] ["_law_hand_here", "_law_disk", "_law_account_here"] (defScope st_law_odd_right) := ⟨rfl, rfl, rfl, by decide +kernel, rfl, by decide +kernel, by decide +kernel⟩
theorem d_law_odd_right (T : Txt K mg A) (k_law_nested : Kn P w K mg base "_law_nested" 3 ["_law_hand_here"] (l_law_nested A)) (k_law_draw : Kn P w K mg base "_law_draw" 1 ["_law_hand_here", "_law_many"] (l_law_draw A)) (k_law_any : Kn P w K mg base "_law_any" 2 ["_law_hand_here", "_law_items"] (l_law_any A)) (k_law_is_value : Kn P w K mg base "_law_is_value" 1 ["_law_thing_here", "_law_many"] (l_law_is_value A)) (k_law_asked : Kl P w K mg base "_law_asked" 6 (l_law_asked_3 A)) (k_Disk_write : Km P w K mg base (A "Disk") "write" 4 ["self", "cell", "thing"] (l_Disk_write_2 A)) (k_Disk_read : Km P w K mg base (A "Disk") "read" 4 ["self", "cell"] (l_Disk_read_2 A)) (k_Disk_lying : Km P w K mg base (A "Disk") "lying" 4 ["self", "cell"] (l_Disk_lying_2 A)) (k_Disk_power : Km P w K mg base (A "Disk") "power" 3 ["self", "many"] (l_Disk_power_2 A)) (k_law_reached : Kn P w K mg base "_law_reached" 1 ["_law_account_here", "_law_cell"] (l_law_reached A)) (k_Disk_reach : Km P w K mg base (A "Disk") "reach" 4 ["self", "cell"] (l_Disk_reach_3 A)) (kl_Disk_write : ∀ [t2 : Tbs], Km P w K mg base (A "Disk") "write" 4 ["self", "cell", "thing"] (l_Disk_write_2 A))  (kl_Disk_read : ∀ [t2 : Tbs], Km P w K mg base (A "Disk") "read" 4 ["self", "cell"] (l_Disk_read_2 A))  (kl_Disk_lying : ∀ [t2 : Tbs], Km P w K mg base (A "Disk") "lying" 4 ["self", "cell"] (l_Disk_lying_2 A))  (kl_Disk_power : ∀ [t2 : Tbs], Km P w K mg base (A "Disk") "power" 3 ["self", "many"] (l_Disk_power_2 A))  (kl_Disk_reach : ∀ [t2 : Tbs], Km P w K mg base (A "Disk") "reach" 4 ["self", "cell"] (l_Disk_reach_3 A)) {f : Addr} {fd : FuncData} (F : Fun K "_law_odd_right" "_law_odd_right" st_law_odd_right f fd) (L : LamOf base mg fd.code "_law_odd_right") : FnD P w K mg base 8 f fd ["_law_hand_here", "_law_disk", "_law_account_here"] (l_law_odd_right A) :=
  fn_DC (k := 7) F sc_law_odd_right L fun cdv Ar outer s H E L hr => (dss_cons (ds_set (i := 3) sc_law_odd_right.nd rfl (Or.inl rfl) (de_callB (ca_len rfl) rfl T.b_len bt_len (da_cons (de_ix (hu_of hr) (de_var 2 (pv 2)) de_str) da_nil))) (dss_cons (ds_set (i := 4) sc_law_odd_right.nd rfl (Or.inl rfl) (de_new (dl_lst (da_cons (de_var 3 (pv 3)) (da_cons (de_neg de_int) (da_cons de_bl (da_cons de_non (da_cons de_str (da_cons (de_tup (da_cons de_int da_nil)) (da_cons (de_new (dl_lst (da_cons de_int da_nil))) (da_cons (de_bin op_powD de_int de_int) (da_cons (de_fn k_law_nested hr (by decide) (takes_of rfl rfl rfl rfl) rfl rfl (da_cons (de_var 0 (pv 0)) da_nil) (len_cons len_nil)) da_nil)))))))))))) (dss_cons (ds_set (i := 5) sc_law_odd_right.nd rfl (Or.inr rfl) (de_ifExp (dt_cmp (op_eqDD (hu64_of hr)) (de_fn k_law_draw hr (by decide) (takes_of rfl rfl rfl rfl) rfl rfl (da_cons (de_var 0 (pv 0)) (da_cons de_int da_nil)) (len_cons (len_cons len_nil))) de_int (nomark _)) (de_fn k_law_draw hr (by decide) (takes_of rfl rfl rfl rfl) rfl rfl (da_cons (de_var 0 (pv 0)) (da_cons (de_var 3 (pv 3)) da_nil)) (len_cons (len_cons len_nil))) (de_fn k_law_any hr (by decide) (takes_of rfl rfl rfl rfl) rfl rfl (da_cons (de_var 0 (pv 0)) (da_cons (de_var 4 (pv 4)) da_nil)) (len_cons (len_cons len_nil))))) (dss_cons (ds_set (i := 6) sc_law_odd_right.nd rfl (Or.inl rfl) (de_fn k_law_is_value hr (by decide) (takes_of rfl rfl rfl rfl) rfl rfl (da_cons (de_var 5 (pv 5)) (da_cons (de_var 3 (pv 3)) da_nil)) (len_cons (len_cons len_nil)))) (dss_cons (ds_set (i := 7) sc_law_odd_right.nd rfl (Or.inl rfl) (de_new (dl_lst (da_cons (de_tup (da_cons de_int (da_cons de_int da_nil))) (da_cons (de_tup (da_cons de_int (da_cons de_int (da_cons de_int (da_cons de_int da_nil))))) (da_cons (de_tup (da_cons de_int (da_cons de_int (da_cons (de_bin op_addD (de_bin op_powD de_int de_int) de_int) da_nil)))) (da_cons (de_tup (da_cons de_int (da_cons (de_neg de_int) (da_cons de_int da_nil)))) (da_cons (de_tup (da_cons de_int (da_cons de_bl (da_cons de_int da_nil)))) (da_cons (de_new (dl_lst (da_cons de_int (da_cons de_int (da_cons de_int da_nil))))) (da_cons (de_new (dl_lst da_nil)) (da_cons de_non (da_cons de_str da_nil)))))))))))) (dss_cons (ds_set (i := 8) sc_law_odd_right.nd rfl (Or.inr rfl) (de_fn k_law_any hr (by decide) (takes_of rfl rfl rfl rfl) rfl rfl (da_cons (de_var 0 (pv 0)) (da_cons (de_bin op_addD (de_var 7 (pv 7)) (de_new (dl_lst (da_cons (de_bin op_mulD (de_tup (da_cons de_non da_nil)) de_int) (da_cons (de_newD dk_empty) (da_cons de_int (da_cons (de_fn k_law_nested hr (by decide) (takes_of rfl rfl rfl rfl) rfl rfl (da_cons (de_var 0 (pv 0)) da_nil) (len_cons len_nil)) da_nil))))))) da_nil)) (len_cons (len_cons len_nil)))) (dss_cons (ds_set (i := 9) sc_law_odd_right.nd rfl (Or.inl rfl) (de_fn k_law_draw hr (by decide) (takes_of rfl rfl rfl rfl) rfl rfl (da_cons (de_var 0 (pv 0)) (da_cons de_int da_nil)) (len_cons (len_cons len_nil)))) (dss_cons (ds_if (dt_cmp (op_eqDD (hu64_of hr)) (de_var 9 (pv 9)) de_int (nomark _)) (dss_one (ds_ret (de_cmp (op_eqDD (hu64_of hr)) (de_lamc L rfl k_law_asked rfl hr (by decide) (takes_of rfl rfl rfl rfl) (LamX.lamS_by (by kernel_rfl)) rfl (fun _ _ _ _ _ => rfl) 5 (by decide) (fun t2 Ar2 outer2 s2 H2 E2 f2 c2 hr => (de_mt (de_var 1 (pv 1)) T.k_Disk kl_Disk_write hr (by decide) (takes_of rfl rfl rfl rfl) (da_cons (de_var 5 (pv 5)) (da_cons (de_var 8 (pv 8)) da_nil)) (fun r s ds s2 e => congrArg (· + 1) ((len_cons (len_cons len_nil)) r s ds s2 e))))) (de_tup (da_cons de_str (da_cons (de_ifExp (dt_tru (de_var 6 (pv 6))) de_str de_str) da_nil))) (nomark _)))) dss_nil) (dss_cons (ds_if (PW.pt (dw_and (dt_cmp (op_eqDD (hu64_of hr)) (de_var 9 (pv 9)) de_int (nomark _)) (dw_and1 (dt_not (dt_tru (de_var 6 (pv 6))))))) (dss_one (ds_ret (de_cmp (op_eqDD (hu64_of hr)) (de_lamc L rfl k_law_asked rfl hr (by decide) (takes_of rfl rfl rfl rfl) (LamX.lamS_by (by kernel_rfl)) rfl (fun _ _ _ _ _ => rfl) 5 (by decide) (fun t2 Ar2 outer2 s2 H2 E2 f2 c2 hr => (de_mt (de_var 1 (pv 1)) T.k_Disk kl_Disk_read hr (by decide) (takes_of rfl rfl rfl rfl) (da_cons (de_var 5 (pv 5)) da_nil) (fun r s ds s2 e => congrArg (· + 1) ((len_cons len_nil) r s ds s2 e))))) (de_tup (da_cons de_str (da_cons de_str da_nil))) (nomark _)))) dss_nil) (dss_cons (ds_if (PW.pt (dw_and (dt_cmp (op_eqDD (hu64_of hr)) (de_var 9 (pv 9)) de_int (nomark _)) (dw_and1 (dt_not (dt_tru (de_var 6 (pv 6))))))) (dss_one (ds_ret (de_cmp (op_eqDD (hu64_of hr)) (de_lamc L rfl k_law_asked rfl hr (by decide) (takes_of rfl rfl rfl rfl) (LamX.lamS_by (by kernel_rfl)) rfl (fun _ _ _ _ _ => rfl) 5 (by decide) (fun t2 Ar2 outer2 s2 H2 E2 f2 c2 hr => (de_mt (de_var 1 (pv 1)) T.k_Disk kl_Disk_lying hr (by decide) (takes_of rfl rfl rfl rfl) (da_cons (de_var 5 (pv 5)) da_nil) (fun r s ds s2 e => congrArg (· + 1) ((len_cons len_nil) r s ds s2 e))))) (de_tup (da_cons de_str (da_cons de_str da_nil))) (nomark _)))) dss_nil) (dss_cons (ds_if (dt_cmp (op_eqDD (hu64_of hr)) (de_var 9 (pv 9)) de_int (nomark _)) (dss_cons (ds_set (i := 10) sc_law_odd_right.nd rfl (Or.inr rfl) (de_fn k_law_any hr (by decide) (takes_of rfl rfl rfl rfl) rfl rfl (da_cons (de_var 0 (pv 0)) (da_cons (de_new (dl_lst (da_cons (de_neg de_int) (da_cons (de_bin op_addD (de_bin op_powD de_int de_int) de_int) (da_cons de_bl (da_cons de_str (da_cons (de_tup (da_cons de_int da_nil)) (da_cons (de_new (dl_lst (da_cons de_non da_nil))) (da_cons (de_bin op_powD de_int de_int) (da_cons (de_fn k_law_nested hr (by decide) (takes_of rfl rfl rfl rfl) rfl rfl (da_cons (de_var 0 (pv 0)) da_nil) (len_cons len_nil)) da_nil)))))))))) da_nil)) (len_cons (len_cons len_nil)))) (dss_one (ds_ret (de_cmp (op_eqDD (hu64_of hr)) (de_lamc L rfl k_law_asked rfl hr (by decide) (takes_of rfl rfl rfl rfl) (LamX.lamS_by (by kernel_rfl)) rfl (fun _ _ _ _ _ => rfl) 5 (by decide) (fun t2 Ar2 outer2 s2 H2 E2 f2 c2 hr => (de_mt (de_var 1 (pv 1)) T.k_Disk kl_Disk_power hr (by decide) (takes_of rfl rfl rfl rfl) (da_cons (de_var 10 (pv 10)) da_nil) (fun r s ds s2 e => congrArg (· + 1) ((len_cons len_nil) r s ds s2 e))))) (de_tup (da_cons de_str (da_cons de_str da_nil))) (nomark _))))) dss_nil) (dss_cons (ds_set (i := 11) sc_law_odd_right.nd rfl (Or.inl rfl) (de_tup (da_cons de_str (da_cons de_str da_nil)))) (dss_cons (ds_if (dt_tru (de_var 6 (pv 6))) (dss_cons (ds_set (i := 11) sc_law_odd_right.nd rfl (Or.inl rfl) (de_tup (da_cons de_str (da_cons de_str da_nil)))) (dss_one (ds_if (dt_cmp (op_neDD (hu64_of hr)) (de_ix (hu_of hr) (de_ix (hu_of hr) (de_var 2 (pv 2)) de_str) (de_var 5 (pv 5))) (de_new (dl_lst da_nil)) (nomark _)) (dss_one (ds_set (i := 11) sc_law_odd_right.nd rfl (Or.inl rfl) (de_ifExp (dt_tru (de_fn k_law_reached hr (by decide) (takes_of rfl rfl rfl rfl) rfl rfl (da_cons (de_var 2 (pv 2)) (da_cons (de_var 5 (pv 5)) da_nil)) (len_cons (len_cons len_nil)))) (de_tup (da_cons de_str (da_cons de_non da_nil))) (de_tup (da_cons de_str (da_cons de_str da_nil)))))) dss_nil))) dss_nil) (dss_one (ds_ret (de_cmp (op_eqDD (hu64_of hr)) (de_lamc L rfl k_law_asked rfl hr (by decide) (takes_of rfl rfl rfl rfl) (LamX.lamS_by (by kernel_rfl)) rfl (fun _ _ _ _ _ => rfl) 5 (by decide) (fun t2 Ar2 outer2 s2 H2 E2 f2 c2 hr => (de_mt (de_var 1 (pv 1)) T.k_Disk kl_Disk_reach hr (by decide) (takes_of rfl rfl rfl rfl) (da_cons (de_var 5 (pv 5)) da_nil) (fun r s ds s2 e => congrArg (· + 1) ((len_cons len_nil) r s ds s2 e))))) (de_var 11 (pv 11)) (nomark _)))))))))))))))))
theorem sc_law_is : FnScope ["_law_given", "_law_due", "_law_one", "_law_two"] ["_law_given", "_law_due"] (defScope st_law_is) := ⟨rfl, rfl, rfl, by decide +kernel, rfl, by decide +kernel, by decide +kernel⟩
theorem d_law_is (T : Txt K mg A) {j : Nat} (hj : 0 ≤ j) {m : MF}  (k_law_is : Kn P w K mg base "_law_is" j ["_law_given", "_law_due"] m) {f : Addr} {fd : FuncData} (F : Fun K "_law_is" "_law_is" st_law_is f fd) : FnD P w K mg base (j + 1) f fd ["_law_given", "_law_due"] (l_law_is_20 A m) :=
  fn_D (k := j) F sc_law_is fun cdv Ar outer s H E hr => (dss_cons (ds_if (dt_val (de_callB ca_isiTs rfl T.b_isinstance bt_isinstance (da_cons (de_var 1 (pv 1)) (da_cons (de_tup (da_cons (de_ty rfl T.b_tuple bt_tuple) (da_cons (de_ty rfl T.b_list bt_list) da_nil))) da_nil)))) (dss_cons (ds_if (PW.pt (dw_or (dt_cmp (op_neDD (hu64_of hr)) (de_callB ca_isi rfl T.b_isinstance bt_isinstance (da_cons (de_var 0 (pv 0)) (da_cons (de_ty rfl T.b_tuple bt_tuple) da_nil))) (de_callB ca_isi rfl T.b_isinstance bt_isinstance (da_cons (de_var 1 (pv 1)) (da_cons (de_ty rfl T.b_tuple bt_tuple) da_nil))) (nomark _)) (dw_or1 (dt_not (dt_val (de_callB ca_isiTs rfl T.b_isinstance bt_isinstance (da_cons (de_var 0 (pv 0)) (da_cons (de_tup (da_cons (de_ty rfl T.b_tuple bt_tuple) (da_cons (de_ty rfl T.b_list bt_list) da_nil))) da_nil)))))))) (dss_one (ds_ret de_bl)) dss_nil) (dss_one (ds_ret (de_and (de_cmp (op_eqDD (hu64_of hr)) (de_callB (ca_len rfl) rfl T.b_len bt_len (da_cons (de_var 0 (pv 0)) da_nil)) (de_callB (ca_len rfl) rfl T.b_len bt_len (da_cons (de_var 1 (pv 1)) da_nil)) (nomark _)) (de_one (de_callBF (ca_all rfl) rfl T.b_all bt_all (dl_lc (own := [("_law_one", 2), ("_law_two", 3)]) rfl sc_law_is.nd (tg_tup (tgs_cons (tg_name (by decide)) (tgs_cons (tg_name (by decide)) tgs_nil))) (di_zip rfl T.b_zip (de_var 0 (pv 0)) (de_var 1 (pv 1))) (blkOk_by (by kernel_rfl)) (fun _ _ _ _ _ => (pg_tup (n := 2) rfl (pgs_cons (pg_name (i := 2) sc_law_is.nd rfl (Or.inl rfl)) (pgs_cons (pg_name (i := 3) sc_law_is.nd rfl (Or.inl rfl)) pgs_nil)))) (fun _ _ _ _ _ => dts_nil) (fun _ _ _ _ _ => (de_fn k_law_is hr (by omega) takes0 rfl rfl (da_cons (de_var 2 (pv 2)) (da_cons (de_var 3 (pv 3)) da_nil)) (len_cons (len_cons len_nil))))))))))) dss_nil) (dss_one (ds_ret (de_and (de_cmp (op_eqDD (hu64_of hr)) (de_callB ca_isi rfl T.b_isinstance bt_isinstance (da_cons (de_var 0 (pv 0)) (da_cons (de_ty rfl T.b_bool bt_bool) da_nil))) (de_callB ca_isi rfl T.b_isinstance bt_isinstance (da_cons (de_var 1 (pv 1)) (da_cons (de_ty rfl T.b_bool bt_bool) da_nil))) (nomark _)) (de_one (de_cmp (op_eqDD (hu64_of hr)) (de_var 0 (pv 0)) (de_var 1 (pv 1)) (nomark _)))))))
theorem sc_Disk_waiting : FnScope ["self", "cell", "some"] ["self"] (defScope st_Disk_waiting) := ⟨rfl, rfl, rfl, by decide +kernel, rfl, by decide +kernel, by decide +kernel⟩
theorem d_Disk_waiting (T : Txt K mg A)  {f : Addr} {fd : FuncData} (F : Fun K "waiting" "Disk.waiting" st_Disk_waiting f fd) : FnD P w K mg base 1 f fd ["self"] (l_Disk_waiting A) :=
  fn_D (k := 0) F sc_Disk_waiting fun cdv Ar outer s H E hr => (dss_one (ds_ret (de_newD (dk_lock (mo := (mFld [A "Disk"] "kept_waiting" (mVar 0))) (dk_dc (own := [("cell", 1), ("some", 2)]) rfl sc_Disk_waiting.nd (tg_tup (tgs_cons (tg_name (by decide)) (tgs_cons (tg_name (by decide)) tgs_nil))) (di_items (de_fld T.p_kept_waiting (de_var 0 (pv 0)))) (blkOk_by (by kernel_rfl)) (fun _ _ _ _ _ => (pg_tup (n := 2) rfl (pgs_cons (pg_name (i := 1) sc_Disk_waiting.nd rfl (Or.inl rfl)) (pgs_cons (pg_name (i := 2) sc_Disk_waiting.nd rfl (Or.inl rfl)) pgs_nil)))) (fun _ _ _ _ _ => dts_nil) (fun _ _ _ _ _ => (de_var 1 (pv 1))) (fun _ _ _ _ _ => (de_callB (ca_len rfl) rfl T.b_len bt_len (da_cons (de_var 2 (pv 2)) da_nil))))))))
theorem sc_Disk_reached : FnScope ["self"] ["self"] (defScope st_Disk_reached) := ⟨rfl, rfl, rfl, by decide +kernel, rfl, by decide +kernel, by decide +kernel⟩
theorem d_Disk_reached (T : Txt K mg A)  {f : Addr} {fd : FuncData} (F : Fun K "reached" "Disk.reached" st_Disk_reached f fd) : FnD P w K mg base 1 f fd ["self"] (l_Disk_reached A) :=
  fn_D (k := 0) F sc_Disk_reached fun cdv Ar outer s H E hr => (dss_one (ds_ret (de_fld T.p_kept_reached (de_var 0 (pv 0)))))
theorem sc_Disk_used : FnScope ["self", "thing"] ["self"] (defScope st_Disk_used) := ⟨rfl, rfl, rfl, by decide +kernel, rfl, by decide +kernel, by decide +kernel⟩
theorem d_Disk_used (T : Txt K mg A)  {f : Addr} {fd : FuncData} (F : Fun K "used" "Disk.used" st_Disk_used f fd) : FnD P w K mg base 1 f fd ["self"] (l_Disk_used A) :=
  fn_D (k := 0) F sc_Disk_used fun cdv Ar outer s H E hr => (dss_one (ds_ret (de_callB (ca_len rfl) rfl T.b_len bt_len (da_cons (de_new (dl_lc (own := [("thing", 1)]) rfl sc_Disk_used.nd (tg_name (by decide)) (di_seq (de_fld T.p_kept_lying (de_var 0 (pv 0)))) (blkOk_by (by kernel_rfl)) (fun _ _ _ _ _ => (pg_name (i := 1) sc_Disk_used.nd rfl (Or.inl rfl))) (fun _ _ _ _ _ => (dts_one (dt_cmp op_gtD (de_callB (ca_len rfl) rfl T.b_len bt_len (da_cons (de_var 1 (pv 1)) da_nil)) de_int (nomark _)))) (fun _ _ _ _ _ => (de_var 1 (pv 1))))) da_nil))))
theorem sc_Disk_many_cells : FnScope ["self"] ["self"] (defScope st_Disk_many_cells) := ⟨rfl, rfl, rfl, by decide +kernel, rfl, by decide +kernel, by decide +kernel⟩
theorem d_Disk_many_cells (T : Txt K mg A)  {f : Addr} {fd : FuncData} (F : Fun K "many_cells" "Disk.many_cells" st_Disk_many_cells f fd) : FnD P w K mg base 1 f fd ["self"] (l_Disk_many_cells A) :=
  fn_D (k := 0) F sc_Disk_many_cells fun cdv Ar outer s H E hr => (dss_one (ds_ret (de_callB (ca_len rfl) rfl T.b_len bt_len (da_cons (de_fld T.p_kept_lying (de_var 0 (pv 0))) da_nil))))
theorem sc_law_disk_is : FnScope ["_law_disk", "_law_account_here", "_law_cells", "_law_cell", "_law_due", "_law_told", "_law_used", "_law_thing_here"] ["_law_disk", "_law_account_here"] (defScope st_law_disk_is) := ⟨rfl, rfl, rfl, by decide +kernel, rfl, by decide +kernel, by decide +kernel⟩
theorem d_law_disk_is (T : Txt K mg A) (k_law_is : Kn P w K mg base "_law_is" 8 ["_law_given", "_law_due"] (l_law_is_2 A 8)) (k_Disk_lying : Km P w K mg base (A "Disk") "lying" 4 ["self", "cell"] (l_Disk_lying_2 A)) (k_Disk_read : Km P w K mg base (A "Disk") "read" 4 ["self", "cell"] (l_Disk_read_2 A)) (k_Disk_waiting : Km P w K mg base (A "Disk") "waiting" 1 ["self"] (l_Disk_waiting A)) (k_Disk_reached : Km P w K mg base (A "Disk") "reached" 1 ["self"] (l_Disk_reached A)) (k_Disk_used : Km P w K mg base (A "Disk") "used" 1 ["self"] (l_Disk_used A)) (k_Disk_many_cells : Km P w K mg base (A "Disk") "many_cells" 1 ["self"] (l_Disk_many_cells A)) {f : Addr} {fd : FuncData} (F : Fun K "_law_disk_is" "_law_disk_is" st_law_disk_is f fd) : FnD P w K mg base 9 f fd ["_law_disk", "_law_account_here"] (l_law_disk_is_2 A) :=
  fn_D (k := 8) F sc_law_disk_is fun cdv Ar outer s H E hr => (dss_cons (ds_set (i := 2) sc_law_disk_is.nd rfl (Or.inl rfl) (de_callB (ca_len rfl) rfl T.b_len bt_len (da_cons (de_ix (hu_of hr) (de_var 1 (pv 1)) de_str) da_nil))) (dss_cons (ds_for (vs := [3]) (passes_of rfl) rfl (di_rg1 rfl T.b_range (de_var 2 (pv 2))) (pg_name (i := 3) sc_law_disk_is.nd rfl (Or.inl rfl)) (tg_name (by decide)) (dss_cons (ds_if (dt_not (dt_tru (de_fn k_law_is hr (by decide) (takes_of rfl rfl rfl rfl) rfl rfl (da_cons (de_mt (de_var 0 (pv 0)) T.k_Disk k_Disk_lying hr (by decide) (takes_of rfl rfl rfl rfl) (da_cons (de_var 3 (pv 3)) da_nil) (fun r s ds s2 e => congrArg (· + 1) ((len_cons len_nil) r s ds s2 e))) (da_cons (de_ix (hu_of hr) (de_ix (hu_of hr) (de_var 1 (pv 1)) de_str) (de_var 3 (pv 3))) da_nil)) (len_cons (len_cons len_nil))))) (dss_one (ds_ret de_bl)) dss_nil) (dss_one (ds_if (dt_not (dt_tru (de_fn k_law_is hr (by decide) (takes_of rfl rfl rfl rfl) rfl rfl (da_cons (de_mt (de_var 0 (pv 0)) T.k_Disk k_Disk_read hr (by decide) (takes_of rfl rfl rfl rfl) (da_cons (de_var 3 (pv 3)) da_nil) (fun r s ds s2 e => congrArg (· + 1) ((len_cons len_nil) r s ds s2 e))) (da_cons (de_ix (hu_of hr) (de_bin op_addD (de_new (dl_lst (da_cons (de_ix (hu_of hr) (de_ix (hu_of hr) (de_var 1 (pv 1)) de_str) (de_var 3 (pv 3))) da_nil))) (de_ix (hu_of hr) (de_ix (hu_of hr) (de_var 1 (pv 1)) de_str) (de_var 3 (pv 3)))) (de_neg de_int)) da_nil)) (len_cons (len_cons len_nil))))) (dss_one (ds_ret de_bl)) dss_nil)))) (dss_cons (ds_set (i := 4) sc_law_disk_is.nd rfl (Or.inr rfl) (de_newD (dk_dictPr rfl rfl T.b_dict (de_new (dl_lc (own := [("_law_cell", 3)]) rfl sc_law_disk_is.nd (tg_name (by decide)) (di_rg1 rfl T.b_range (de_var 2 (pv 2))) (blkOk_by (by kernel_rfl)) (fun _ _ _ _ _ => (pg_name (i := 3) sc_law_disk_is.nd rfl (Or.inl rfl))) (fun _ _ _ _ _ => (dts_one (dt_cmp (op_neDD (hu64_of hr)) (de_ix (hu_of hr) (de_ix (hu_of hr) (de_var 1 (pv 1)) de_str) (de_var 3 (pv 3))) (de_new (dl_lst da_nil)) (nomark _)))) (fun _ _ _ _ _ => (de_tup (da_cons (de_var 3 (pv 3)) (da_cons (de_callB (ca_len rfl) rfl T.b_len bt_len (da_cons (de_ix (hu_of hr) (de_ix (hu_of hr) (de_var 1 (pv 1)) de_str) (de_var 3 (pv 3))) da_nil)) da_nil))))))))) (dss_cons (ds_set (i := 5) sc_law_disk_is.nd rfl (Or.inr rfl) (de_mt0 (de_var 0 (pv 0)) T.k_Disk k_Disk_waiting hr (by decide) (takes_of rfl rfl rfl rfl) rfl)) (dss_cons (ds_if (PW.pt (dw_or (dt_not (dt_val (de_callB ca_isi rfl T.b_isinstance bt_isinstance (da_cons (de_var 5 (pv 5)) (da_cons (de_ty rfl T.b_dict bt_dict) da_nil))))) (dw_or (dt_cmp (op_neD2 (hu64_of hr)) (de_var 5 (pv 5)) (de_var 4 (pv 4)) (nomark _)) (dw_or1 (dt_not (dt_val (de_callBF (ca_all rfl) rfl T.b_all bt_all (dl_lock (mo := (mVar 4)) (dl_lc (own := [("_law_cell", 3)]) rfl sc_law_disk_is.nd (tg_name (by decide)) (di_keys (de_var 4 (pv 4))) (blkOk_by (by kernel_rfl)) (fun _ _ _ _ _ => (pg_name (i := 3) sc_law_disk_is.nd rfl (Or.inl rfl))) (fun _ _ _ _ _ => dts_nil) (fun _ _ _ _ _ => (de_fn k_law_is hr (by decide) takes0 rfl rfl (da_cons (de_ix (hu_of hr) (de_var 5 (pv 5)) (de_var 3 (pv 3))) (da_cons (de_ix (hu_of hr) (de_var 4 (pv 4)) (de_var 3 (pv 3))) da_nil)) (len_cons (len_cons len_nil))))))))))))) (dss_one (ds_ret de_bl)) dss_nil) (dss_cons (ds_set (i := 6) sc_law_disk_is.nd rfl (Or.inl rfl) (de_callB (ca_len rfl) rfl T.b_len bt_len (da_cons (de_new (dl_lc (own := [("_law_thing_here", 7)]) rfl sc_law_disk_is.nd (tg_name (by decide)) (di_seq (de_ix (hu_of hr) (de_var 1 (pv 1)) de_str)) (blkOk_by (by kernel_rfl)) (fun _ _ _ _ _ => (pg_name (i := 7) sc_law_disk_is.nd rfl (Or.inl rfl))) (fun _ _ _ _ _ => (dts_one (dt_cmp (op_neDD (hu64_of hr)) (de_var 7 (pv 7)) (de_tup da_nil) (nomark _)))) (fun _ _ _ _ _ => (de_var 7 (pv 7))))) da_nil))) (dss_one (ds_ret (de_fn k_law_is hr (by decide) (takes_of rfl rfl rfl rfl) rfl rfl (da_cons (de_new (dl_lst (da_cons (de_mt0 (de_var 0 (pv 0)) T.k_Disk k_Disk_many_cells hr (by decide) (takes_of rfl rfl rfl rfl) rfl) (da_cons (de_mt0 (de_var 0 (pv 0)) T.k_Disk k_Disk_used hr (by decide) (takes_of rfl rfl rfl rfl) rfl) (da_cons (de_mt0 (de_var 0 (pv 0)) T.k_Disk k_Disk_reached hr (by decide) (takes_of rfl rfl rfl rfl) rfl) da_nil))))) (da_cons (de_new (dl_lst (da_cons (de_var 2 (pv 2)) (da_cons (de_var 6 (pv 6)) (da_cons (de_ix (hu_of hr) (de_var 1 (pv 1)) de_str) da_nil))))) da_nil)) (len_cons (len_cons len_nil)))))))))))
theorem sc_law : FnScope ["_law_script", "_law_hand_here", "_law_turn", "_law_many", "_law_due", "_law_told", "_law_cells", "_law_disk", "_law_account_here", "_law_again"] ["_law_script"] (defScope st_law) := ⟨rfl, rfl, rfl, by decide +kernel, rfl, by decide +kernel, by decide +kernel⟩
theorem d_law (T : Txt K mg A) (k_law_hand : Ks P w K mg base "_law_hand" 1 ["_law_script"] (l_law_hand A)) (k_law_any : Kn P w K mg base "_law_any" 2 ["_law_hand_here", "_law_items"] (l_law_any A)) (k_law_nested : Kn P w K mg base "_law_nested" 3 ["_law_hand_here"] (l_law_nested A)) (k_law_is_value : Kn P w K mg base "_law_is_value" 1 ["_law_thing_here", "_law_many"] (l_law_is_value A)) (k_law_asked : Kl P w K mg base "_law_asked" 6 (l_law_asked_3 A)) (k_Disk_init : Kc P w K mg base "Disk" (A "Disk") 3 ["self", "cells"] (l_Disk_init_2 A)) (k_law_draw : Kn P w K mg base "_law_draw" 1 ["_law_hand_here", "_law_many"] (l_law_draw A)) (k_law_account : Kn P w K mg base "_law_account" 1 ["_law_cells"] (l_law_account A)) (k_law_deed : Kn P w K mg base "_law_deed" 8 ["_law_hand_here", "_law_disk", "_law_account_here"] (l_law_deed_2 A)) (k_law_odd_right : Kn P w K mg base "_law_odd_right" 8 ["_law_hand_here", "_law_disk", "_law_account_here"] (l_law_odd_right A)) (k_law_disk_is : Kn P w K mg base "_law_disk_is" 9 ["_law_disk", "_law_account_here"] (l_law_disk_is_2 A)) (kl_Disk_init : ∀ [t2 : Tbs], Kc P w K mg base "Disk" (A "Disk") 3 ["self", "cells"] (l_Disk_init_2 A)) {f : Addr} {fd : FuncData} (F : Fun K "law" "law" st_law f fd) (L : LamOf base mg fd.code "law") : FnS P w K mg base 10 f fd ["_law_script"] (m_law A) :=
  fnS_DC (k := 9) F sc_law rfl L fun ns h63 cdv Ar outer s H E L hr => (pss_scr (ps_setCallScr (i := 1) h63 k_law_hand hr (by decide) (takes_of rfl rfl rfl rfl) rfl (pv 0) sc_law.nd rfl (Or.inl rfl)) (dss_cons (ds_for (vs := [2]) (passes_of rfl) rfl (di_rg1 rfl T.b_range de_int) (pg_name (i := 2) sc_law.nd rfl (Or.inl rfl)) (tg_name (by decide)) (dss_cons (ds_set (i := 3) sc_law.nd rfl (Or.inr rfl) (de_fn k_law_any hr (by decide) (takes_of rfl rfl rfl rfl) rfl rfl (da_cons (de_var 1 (pv 1)) (da_cons (de_new (dl_lst (da_cons de_int (da_cons de_int (da_cons de_int (da_cons de_int (da_cons de_int (da_cons de_int (da_cons (de_neg de_int) (da_cons de_bl (da_cons de_non (da_cons de_str (da_cons (de_tup (da_cons de_int da_nil)) (da_cons (de_new (dl_lst (da_cons de_int da_nil))) (da_cons (de_bin op_powD de_int de_int) (da_cons (de_fn k_law_nested hr (by decide) (takes_of rfl rfl rfl rfl) rfl rfl (da_cons (de_var 1 (pv 1)) da_nil) (len_cons len_nil)) da_nil)))))))))))))))) da_nil)) (len_cons (len_cons len_nil)))) (dss_cons (ds_set (i := 4) sc_law.nd rfl (Or.inl rfl) (de_ifExp (PW.pt (dw_and (dt_tru (de_fn k_law_is_value hr (by decide) (takes_of rfl rfl rfl rfl) rfl rfl (da_cons (de_var 3 (pv 3)) (da_cons de_int da_nil)) (len_cons (len_cons len_nil)))) (dw_and1 (dt_cmp op_gtD (de_var 3 (pv 3)) de_int (nomark _))))) de_str de_str)) (dss_cons (ds_set (i := 5) sc_law.nd rfl (Or.inl rfl) (de_lamc L rfl k_law_asked rfl hr (by decide) (takes_of rfl rfl rfl rfl) (LamX.lamS_by (by kernel_rfl)) rfl (fun _ _ _ _ _ => rfl) 5 (by decide) (fun t2 Ar2 outer2 s2 H2 E2 f2 c2 hr => (de_mk kl_Disk_init hr (by decide) (takes_of rfl rfl rfl rfl) rfl (da_cons (de_var 3 (pv 3)) da_nil) (fun r s ds s2 e => congrArg (· + 1) ((len_cons len_nil) r s ds s2 e)))))) (dss_cons (ds_if (PW.pt (dw_or (dt_cmp (op_neDD (hu64_of hr)) (de_ix (hu_of hr) (de_var 5 (pv 5)) de_int) (de_var 4 (pv 4)) (nomark _)) (dw_or1 (PW.pt (dw_and (dt_cmp (op_eqDD (hu64_of hr)) (de_var 4 (pv 4)) de_str (nomark _)) (dw_and1 (dt_cmp (op_neDD (hu64_of hr)) (de_var 5 (pv 5)) (de_tup (da_cons de_str (da_cons de_str da_nil))) (nomark _)))))))) (dss_one (ds_ret de_bl)) dss_nil) (dss_cons (ds_set (i := 6) sc_law.nd rfl (Or.inl rfl) (de_bin op_addD de_int (de_fn k_law_draw hr (by decide) (takes_of rfl rfl rfl rfl) rfl rfl (da_cons (de_var 1 (pv 1)) (da_cons de_int da_nil)) (len_cons (len_cons len_nil))))) (dss_cons (ds_par (i := 7) (j := 8) rfl sc_law.nd rfl rfl (by decide) rfl rfl (da_cons (de_mk k_Disk_init hr (by decide) (takes_of rfl rfl rfl rfl) rfl (da_cons (de_var 6 (pv 6)) da_nil) (fun r s ds s2 e => congrArg (· + 1) ((len_cons len_nil) r s ds s2 e))) (da_cons (de_fn k_law_account hr (by decide) (takes_of rfl rfl rfl rfl) rfl rfl (da_cons (de_var 6 (pv 6)) da_nil) (len_cons len_nil)) da_nil)) rfl) (dss_cons (ds_for (vs := [9]) (passes_of rfl) rfl (di_rg1 rfl T.b_range (de_fn k_law_draw hr (by decide) (takes_of rfl rfl rfl rfl) rfl rfl (da_cons (de_var 1 (pv 1)) (da_cons de_int da_nil)) (len_cons (len_cons len_nil)))) (pg_name (i := 9) sc_law.nd rfl (Or.inl rfl)) (tg_name (by decide)) (dss_one (ds_if (dt_not (dt_tru (de_fn k_law_deed hr (by decide) (takes_of rfl rfl rfl rfl) rfl rfl (da_cons (de_var 1 (pv 1)) (da_cons (de_var 7 (pv 7)) (da_cons (de_var 8 (pv 8)) da_nil))) (len_cons (len_cons (len_cons len_nil)))))) (dss_one (ds_ret de_bl)) dss_nil))) (dss_one (ds_for (vs := [9]) (passes_of rfl) rfl (di_rg1 rfl T.b_range de_int) (pg_name (i := 9) sc_law.nd rfl (Or.inl rfl)) (tg_name (by decide)) (dss_one (ds_if (PW.pt (dw_or (dt_not (dt_tru (de_fn k_law_odd_right hr (by decide) (takes_of rfl rfl rfl rfl) rfl rfl (da_cons (de_var 1 (pv 1)) (da_cons (de_var 7 (pv 7)) (da_cons (de_var 8 (pv 8)) da_nil))) (len_cons (len_cons (len_cons len_nil)))))) (dw_or1 (dt_not (dt_tru (de_fn k_law_disk_is hr (by decide) (takes_of rfl rfl rfl rfl) rfl rfl (da_cons (de_var 7 (pv 7)) (da_cons (de_var 8 (pv 8)) da_nil)) (len_cons (len_cons len_nil)))))))) (dss_one (ds_ret de_bl)) dss_nil)))))))))))) (dss_one (ds_ret de_bl))))
end
end M48
end
/-! ### P1 -/
section
set_option linter.all false
set_option maxRecDepth 100000
/-! P1: what a mirror answers: rules. -/
namespace DL
open PySem PySem.Spec L2
open PyProof.Rows hiding St
/-- r is an answer of which Q is true -/
def RW {α : Type} (r : R α) (Q : α → Sto → Prop) : Prop := match r with
  | .ok a s => Q a s
  | _ => False
def SW (x : S) (Qn : Env → Sto → Prop) (Qr : D → Sto → Prop) (Qb Qc : Env → Sto → Prop) : Prop := match x with
  | .nx r s => Qn r s
  | .rt d s => Qr d s
  | .bk r s => Qb r s
  | .ct r s => Qc r s
  | _ => False
theorem RW.imp {α : Type} {r : R α} {Q Q' : α → Sto → Prop} (h : RW r Q) (f : ∀ a s, Q a s → Q' a s) : RW r Q' := by
  cases r <;> first | exact f _ _ h | exact h
theorem RW.get {α : Type} {r : R α} {Q : α → Sto → Prop} (h : RW r Q) : ∃ a s, r = .ok a s ∧ Q a s := by
  cases r with
  | ok a s => exact ⟨a, s, rfl, h⟩
  | exc _ _ => exact h.elim
  | bad => exact h.elim
theorem RW.of {α : Type} {r : R α} {Q : α → Sto → Prop} {a : α} {s : Sto} (e : r = .ok a s) (h : Q a s) : RW r Q := by rw [e]; exact h
theorem SW.imp {x : S} {Qn Qn' Qb Qb' Qc Qc' : Env → Sto → Prop} {Qr Qr' : D → Sto → Prop} (h : SW x Qn Qr Qb Qc) (f1 : ∀ r s, Qn r s → Qn' r s) (f2 : ∀ r s, Qr r s → Qr' r s) (f3 : ∀ r s, Qb r s → Qb' r s) (f4 : ∀ r s, Qc r s → Qc' r s) : SW x Qn' Qr' Qb' Qc' := by
  cases x <;> first | exact f1 _ _ h | exact f2 _ _ h | exact f3 _ _ h | exact f4 _ _ h | exact h
section
variable {α β : Type} {s : Sto} {r : Env} {Q : D → Sto → Prop} {QB : Bool → Sto → Prop} {QL : List D → Sto → Prop} {m n o : ME} {ma : MA} {u w : MT}
@[simp] theorem RW_ok {a : α} {Q : α → Sto → Prop} : RW (.ok a s) Q ↔ Q a s := Iff.rfl
@[simp] theorem RW_bad {Q : α → Sto → Prop} : RW .bad Q ↔ False := Iff.rfl
@[simp] theorem RW_exc {e : Exn} {Q : α → Sto → Prop} : RW (.exc e s) Q ↔ False := Iff.rfl
@[simp] theorem RW_bind {x : R α} {f : α → Sto → R β} {Q : β → Sto → Prop} : RW (x.bind f) Q ↔ RW x (fun a s => RW (f a s) Q) := by
  cases x <;> simp [R.bind, RW]
@[simp] theorem RW_of_some {a : α} {Q : α → Sto → Prop} : RW (R.of (some (a, s))) Q ↔ Q a s := Iff.rfl
@[simp] theorem RW_of_none {Q : α → Sto → Prop} : RW (R.of none) Q ↔ False := Iff.rfl
@[simp] theorem RW_C {d : D} : RW (mC d r s) Q ↔ Q d s := Iff.rfl
@[simp] theorem RW_var {i : Nat} : RW (mVar i r s) Q ↔ ∃ d, r[i]? = some (some d) ∧ Q d s := by
  unfold mVar
  cases h : r[i]? with
  | none => simp
  | some x => cases x <;> simp
@[simp] theorem RW_bin {g : G2} : RW (mBin g m n r s) Q ↔ RW (m r s) fun d s1 => RW (n r s1) fun e s2 => RW (R.of (g d e s2)) Q := by simp [mBin]
@[simp] theorem RW_neg : RW (mNeg m r s) Q ↔ RW (m r s) fun d s1 => ∃ i, d = .int i ∧ Q (.int (-i)) s1 := by
  simp only [mNeg, RW_bind]
  constructor
  · intro h; refine h.imp fun d s1 q => ?_; cases d <;> simp_all
  · intro h; refine h.imp fun d s1 ⟨i, e, q⟩ => ?_; subst e; exact q
@[simp] theorem RW_nil : RW (mNil r s) QL ↔ QL [] s := Iff.rfl
@[simp] theorem RW_cons : RW (mCons m ma r s) QL ↔ RW (m r s) fun d s1 => RW (ma r s1) fun ds s2 => QL (d :: ds) s2 := by simp [mCons]
@[simp] theorem RW_tup : RW (mTup ma r s) Q ↔ RW (ma r s) fun ds s1 => ds.length ≤ sizeLine ∧ Q (.tup ds) s1 := by
  simp only [mTup, RW_bind]
  constructor
  · intro h; refine h.imp fun d s1 q => ?_; split at q; exact ⟨by assumption, q⟩; exact q.elim
  · intro h; refine h.imp fun d s1 ⟨e, q⟩ => ?_; rw [if_pos e]; exact q
@[simp] theorem RW_lst : RW (mLst ma r s) QL ↔ RW (ma r s) fun ds s1 => ds.length ≤ sizeLine ∧ QL ds s1 := by
  simp only [mLst, RW_bind]
  constructor
  · intro h; refine h.imp fun d s1 q => ?_; split at q; exact ⟨by assumption, q⟩; exact q.elim
  · intro h; refine h.imp fun d s1 ⟨e, q⟩ => ?_; rw [if_pos e]; exact q
@[simp] theorem RW_new : RW (mNew ma r s) Q ↔ RW (ma r s) fun ds s1 => Q (.loc s1.length) (s1 ++ [.lst ds]) := by simp [mNew]
@[simp] theorem RW_newD {md : MD} : RW (mNewD md r s) Q ↔ RW (md r s) fun ds s1 => Q (.loc s1.length) (s1 ++ [.dct ds]) := by simp [mNewD]
@[simp] theorem RW_callB {g : GF} : RW (mCallB g ma r s) Q ↔ RW (ma r s) fun ds s1 => RW (R.of (g ds s1)) Q := by simp [mCallB]
@[simp] theorem RW_callF {g : List D → Option D} : RW (mCallF g ma r s) Q ↔ RW (ma r s) fun ds s1 => ∃ z, g ds = some z ∧ Q z s1 := by
  simp only [mCallF, RW_bind]
  constructor
  · intro h; refine h.imp fun d s1 q => ?_; split at q; exact ⟨_, by assumption, q⟩; exact q.elim
  · intro h; refine h.imp fun d s1 ⟨z, e, q⟩ => ?_; rw [e]; exact q
@[simp] theorem RW_callL {g : GL} : RW (mCallL g ma r s) QL ↔ RW (ma r s) fun ds s1 => ∃ z, g ds s1 = some z ∧ QL z s1 := by
  simp only [mCallL, RW_bind]
  constructor
  · intro h; refine h.imp fun d s1 q => ?_; split at q; exact ⟨_, by assumption, q⟩; exact q.elim
  · intro h; refine h.imp fun d s1 ⟨z, e, q⟩ => ?_; rw [e]; exact q
@[simp] theorem RW_call {f : MF} : RW (mCall f ma r s) Q ↔ RW (ma r s) fun ds s1 => RW (f ds s1) Q := by simp [mCall]
@[simp] theorem RW_call0 {f : MF} : RW (mCall0 f r s) Q ↔ RW (f [] s) Q := Iff.rfl
@[simp] theorem RW_ifE : RW (mIfE u m n r s) Q ↔ RW (u r s) fun b s1 => if b = true then RW (m r s1) Q else RW (n r s1) Q := by
  simp only [mIfE, RW_bind]
  constructor
  · intro h; refine h.imp fun d s1 q => ?_; cases d <;> simpa using q
  · intro h; refine h.imp fun d s1 q => ?_; cases d <;> simpa using q
@[simp] theorem RW_asB : RW (asB m r s) QB ↔ RW (m r s) fun d s1 => ∃ b, d = .bl b ∧ QB b s1 := by
  simp only [asB, RW_bind]
  constructor
  · intro h; refine h.imp fun d s1 q => ?_; cases d <;> simp_all
  · intro h; refine h.imp fun d s1 ⟨i, e, q⟩ => ?_; subst e; exact q
@[simp] theorem RW_asT : RW (asT m r s) QB ↔ RW (m r s) fun d s1 => ∃ b, truB s1 d = some b ∧ QB b s1 := by
  simp only [asT, RW_bind]
  constructor
  · intro h; refine h.imp fun d s1 q => ?_; split at q; exact ⟨_, by assumption, q⟩; exact q.elim
  · intro h; refine h.imp fun d s1 ⟨i, e, q⟩ => ?_; rw [e]; exact q
@[simp] theorem RW_ofB : RW (ofB u r s) Q ↔ RW (u r s) fun b s1 => Q (.bl b) s1 := by simp [ofB]
@[simp] theorem RW_yes : RW (mYes r s) QB ↔ QB true s := Iff.rfl
@[simp] theorem RW_not : RW (mNot u r s) QB ↔ RW (u r s) fun b s1 => QB (!b) s1 := by simp [mNot]
@[simp] theorem RW_and : RW (mAnd u w r s) QB ↔ RW (u r s) fun b s1 => if b = true then RW (w r s1) QB else QB false s1 := by
  simp only [mAnd, RW_bind]
  constructor
  · intro h; refine h.imp fun d s1 q => ?_; cases d <;> simpa using q
  · intro h; refine h.imp fun d s1 q => ?_; cases d <;> simpa using q
@[simp] theorem RW_or : RW (mOr u w r s) QB ↔ RW (u r s) fun b s1 => if b = true then QB true s1 else RW (w r s1) QB := by
  simp only [mOr, RW_bind]
  constructor
  · intro h; refine h.imp fun d s1 q => ?_; cases d <;> simpa using q
  · intro h; refine h.imp fun d s1 q => ?_; cases d <;> simpa using q
@[simp] theorem RW_chain {g g' : G2} : RW (mChain g g' m n o r s) Q ↔ RW (m r s) fun d s1 => RW (n r s1) fun e s2 => RW (R.of (g d e s2)) fun z s3 => ∃ b, z = .bl b ∧ (if b = true then RW (o r s3) fun f s4 => RW (R.of (g' e f s4)) Q else Q (.bl false) s3) := by
  simp only [mChain, RW_bind]
  constructor
  · intro h
    refine h.imp fun d s1 h => h.imp fun e s2 q => ?_
    cases hg : g d e s2 with
    | none => rw [hg] at q; exact q.elim
    | some z =>
      obtain ⟨z, s3⟩ := z
      rw [hg] at q
      cases z with
      | bl b => cases b <;> simpa using q
      | _ => exact q.elim
  · intro h
    refine h.imp fun d s1 h => h.imp fun e s2 q => ?_
    cases hg : g d e s2 with
    | none => rw [hg] at q; exact q.elim
    | some z =>
      obtain ⟨z, s3⟩ := z
      rw [hg] at q
      obtain ⟨b, e, q⟩ := q
      subst e
      cases b <;> simpa using q
@[simp] theorem RW_fld {cs : List Addr} {f : Str} : RW (mFld cs f m r s) Q ↔ RW (m r s) fun d s1 => ∃ k C fs v, d = .loc k ∧ s1[k]? = some (.ins C fs) ∧ C ∈ cs ∧ fs.lookup f = some v ∧ Q v s1 := by
  simp only [mFld, RW_bind]
  constructor
  · intro h
    refine h.imp fun d s1 q => ?_
    split at q <;> try exact q.elim
    split at q <;> try exact q.elim
    split at q <;> try exact q.elim
    split at q <;> try exact q.elim
    exact ⟨_, _, _, _, rfl, by assumption, by assumption, by assumption, q⟩
  · intro h
    refine h.imp fun d s1 ⟨k, C, fs, v, e1, e2, e3, e4, q⟩ => ?_
    subst e1
    simp only [e2, e3, e4, if_true]
    exact q
@[simp] theorem RW_meth {C : Addr} {x : Str} {f : MF} : RW (mMeth C x f m ma r s) Q ↔ RW (m r s) fun d s1 => ∃ k fs, d = .loc k ∧ s1[k]? = some (.ins C fs) ∧ fs.lookup x = none ∧ RW (ma r s1) fun ds s2 => RW (f (.loc k :: ds) s2) Q := by
  simp only [mMeth, RW_bind]
  constructor
  · intro h
    refine h.imp fun d s1 q => ?_
    split at q <;> try exact q.elim
    split at q <;> try exact q.elim
    split at q <;> try exact q.elim
    rename_i hc
    obtain ⟨rfl, hc⟩ := hc
    exact ⟨_, _, rfl, by assumption, hc, by simpa using q⟩
  · intro h
    refine h.imp fun d s1 ⟨k, fs, e1, e2, e3, q⟩ => ?_
    subst e1
    simp only [e2, e3]
    simpa using q
@[simp] theorem RW_make {C : Addr} {f : MF} : RW (mMake C f ma r s) Q ↔ RW (ma r s) fun ds s1 => RW (f (.loc s1.length :: ds) (s1 ++ [.ins C []])) fun d s2 => d = .non ∧ Q (.loc s1.length) s2 := by
  simp only [mMake, RW_bind]
  constructor
  · intro h; refine h.imp fun d s1 h => h.imp fun e s2 q => ?_; cases e <;> simp_all
  · intro h; refine h.imp fun d s1 h => h.imp fun e s2 ⟨e1, q⟩ => ?_; subst e1; exact q
@[simp] theorem RW_MB {g : GM} : RW (mMB g m ma r s) Q ↔ RW (m r s) fun d s1 => (itL s1 d).isSome = true ∧ RW (ma r s1) fun ds s2 => RW (R.of (g d ds s2)) Q := by
  simp only [mMB, RW_bind]
  constructor
  · intro h
    refine h.imp fun d s1 q => ?_
    cases hq : itL s1 d with
    | none => rw [hq] at q; exact q.elim
    | some _ => rw [hq] at q; exact ⟨rfl, by simpa using q⟩
  · intro h
    refine h.imp fun d s1 ⟨e, q⟩ => ?_
    cases hq : itL s1 d with
    | none => rw [hq] at e; cases e
    | some _ => simpa using q
@[simp] theorem RW_get2 {mk mx : ME} : RW (mGet2 m mk mx r s) Q ↔ RW (m r s) fun d s1 => ∃ l, d = .loc l ∧ (kvsOf s1 l).isSome = true ∧ RW (mk r s1) fun k s2 => RW (mx r s2) fun x s3 => ∃ kvs k', kvsOf s3 l = some kvs ∧ keyD k = some k' ∧ Q ((dGet kvs k').getD x) s3 := by
  simp only [mGet2, RW_bind]
  constructor
  · intro h
    refine h.imp fun d s1 q => ?_
    split at q <;> try exact q.elim
    split at q <;> try exact q.elim
    rename_i hk
    refine ⟨_, rfl, by rw [hk]; rfl, ?_⟩
    simp only [RW_bind] at q
    refine q.imp fun k s2 q => q.imp fun x s3 q => ?_
    split at q <;> try exact q.elim
    exact ⟨_, _, by assumption, by assumption, q⟩
  · intro h
    refine h.imp fun d s1 ⟨l, e, h1, q⟩ => ?_
    subst e
    obtain ⟨kvs, hk⟩ := Option.isSome_iff_exists.mp h1
    simp only [hk, RW_bind]
    refine q.imp fun k s2 q => q.imp fun x s3 ⟨kvs, k', e1, e2, q⟩ => ?_
    simp only [e1, e2]
    exact q
@[simp] theorem RW_rev : RW (mRev m r s) Q ↔ RW (m r s) fun d s1 => ∃ ds, d = .tup ds ∧ Q (.tup ds.reverse) s1 := by
  simp only [mRev, RW_bind]
  constructor
  · intro h; refine h.imp fun d s1 q => ?_; cases d <;> simp_all
  · intro h; refine h.imp fun d s1 ⟨i, e, q⟩ => ?_; subst e; exact q
@[simp] theorem RW_part_none {Q : Option Int → Sto → Prop} : RW (mPart none r s) Q ↔ Q none s := Iff.rfl
@[simp] theorem RW_part_some {Q : Option Int → Sto → Prop} : RW (mPart (some m) r s) Q ↔ RW (m r s) fun d s1 => ∃ i, d = .int i ∧ Q (some i) s1 := by
  simp only [mPart, RW_bind]
  constructor
  · intro h; refine h.imp fun d s1 q => ?_; cases d <;> simp_all
  · intro h; refine h.imp fun d s1 ⟨i, e, q⟩ => ?_; subst e; exact q
@[simp] theorem RW_sl {lo hi : Option ME} : RW (mSl m lo hi r s) Q ↔ RW (m r s) fun d s1 => RW (mPart lo r s1) fun l s2 => RW (mPart hi r s2) fun h s3 => RW (R.of (gSl s3 d l h)) Q := by simp [mSl]
@[simp] theorem RW_lc {mi : MI} {mg : MG} {tt : MT} {te : ME} {vs : List Nat} : RW (mLc mi mg tt te vs r s) QL ↔ RW (mi r s) fun q s1 => RW (mLcGo q.2 mg tt te (wipeD r vs) q.1 s1 []) QL := by simp [mLc]
@[simp] theorem RW_dc {mi : MI} {mg : MG} {tt : MT} {tk tv : ME} {vs : List Nat} {Q : List (Key × D) → Sto → Prop} : RW (mDc mi mg tt tk tv vs r s) Q ↔ RW (mi r s) fun q s1 => RW (mDcGo q.2 mg tt tk tv (wipeD r vs) q.1 s1 []) Q := by simp [mDc]
@[simp] theorem RW_dictOf {Q : List (Key × D) → Sto → Prop} : RW (mDictOf m r s) Q ↔ RW (m r s) fun d s1 => ∃ l kvs, d = .loc l ∧ kvsOf s1 l = some kvs ∧ Q kvs s1 := by
  simp only [mDictOf, RW_bind]
  constructor
  · intro h
    refine h.imp fun d s1 q => ?_
    split at q <;> try exact q.elim
    split at q <;> try exact q.elim
    exact ⟨_, _, rfl, by assumption, q⟩
  · intro h
    refine h.imp fun d s1 ⟨l, kvs, e, h1, q⟩ => ?_
    subst e
    simp only [h1]
    exact q
abbrev QI := List D × List (Nat × Ob) → Sto → Prop
@[simp] theorem RW_it {Q : QI} : RW (mIt m r s) Q ↔ RW (m r s) fun d s1 => ∃ q, srcD s1 d = some q ∧ Q q s1 := by
  simp only [mIt, RW_bind]
  constructor
  · intro h
    refine h.imp fun d s1 q => ?_
    cases d with
    | tup ds => exact ⟨_, rfl, q⟩
    | loc l =>
      simp only at q
      split at q <;> try exact q.elim
      rename_i h1
      exact ⟨_, by simp [srcD, h1], q⟩
    | _ => exact q.elim
  · intro h
    refine h.imp fun d s1 ⟨q, e, h⟩ => ?_
    cases d with
    | tup ds => simp only [srcD] at e; cases e; exact h
    | loc l =>
      simp only [srcD] at e
      split at e <;> cases e
      rename_i h1
      simp only [h1]
      exact h
    | _ => cases e
@[simp] theorem RW_rg1 {Q : QI} : RW (mRg1 m r s) Q ↔ RW (m r s) fun d s1 => ∃ j, d = .int j ∧ -(2 ^ 62) ≤ j ∧ j < 2 ^ 62 ∧ Q ((List.range j.toNat).map fun (i : Nat) => D.int (0 + i), []) s1 := by
  simp only [mRg1, RW_bind]
  constructor
  · intro h
    refine h.imp fun d s1 q => ?_
    split at q <;> try exact q.elim
    split at q <;> try exact q.elim
    rename_i hc
    exact ⟨_, rfl, hc.1, hc.2, q⟩
  · intro h
    refine h.imp fun d s1 ⟨j, e, h1, h2, q⟩ => ?_
    subst e
    simp only [h1, h2, and_self, if_true]
    exact q
@[simp] theorem RW_rg2 {Q : QI} : RW (mRg2 m n r s) Q ↔ RW (m r s) fun d s1 => RW (n r s1) fun e s2 => ∃ i j, d = .int i ∧ e = .int j ∧ (-(2 ^ 62) ≤ i ∧ i < 2 ^ 62 ∧ -(2 ^ 62) ≤ j ∧ j < 2 ^ 62) ∧ Q ((List.range (j - i).toNat).map fun (k : Nat) => D.int (i + k), []) s2 := by
  simp only [mRg2, RW_bind]
  constructor
  · intro h
    refine h.imp fun d s1 h => h.imp fun e s2 q => ?_
    split at q <;> try exact q.elim
    split at q <;> try exact q.elim
    rename_i hc
    exact ⟨_, _, rfl, rfl, hc, q⟩
  · intro h
    refine h.imp fun d s1 h => h.imp fun e s2 ⟨i, j, e1, e2, h1, q⟩ => ?_
    subst e1 e2
    simp only [h1, and_self, if_true]
    exact q
@[simp] theorem RW_zip {Q : QI} : RW (mZip m n r s) Q ↔ RW (m r s) fun d s1 => RW (n r s1) fun e s2 => ∃ xs g1 ys g2, srcD s2 d = some (xs, g1) ∧ srcD s2 e = some (ys, g2) ∧ Q (List.zipWith (fun x y => .tup [x, y]) xs ys, g1 ++ g2) s2 := by
  simp only [mZip, RW_bind]
  constructor
  · intro h
    refine h.imp fun d s1 h => h.imp fun e s2 q => ?_
    split at q <;> try exact q.elim
    exact ⟨_, _, _, _, by assumption, by assumption, q⟩
  · intro h
    refine h.imp fun d s1 h => h.imp fun e s2 ⟨xs, g1, ys, g2, e1, e2, q⟩ => ?_
    simp only [e1, e2]
    exact q
@[simp] theorem RW_enum {Q : QI} : RW (mEnum m r s) Q ↔ RW (m r s) fun d s1 => ∃ xs g1, srcD s1 d = some (xs, g1) ∧ Q (numbered 0 xs, g1) s1 := by
  simp only [mEnum, RW_bind]
  constructor
  · intro h
    refine h.imp fun d s1 q => ?_
    split at q <;> try exact q.elim
    exact ⟨_, _, by assumption, q⟩
  · intro h
    refine h.imp fun d s1 ⟨xs, g1, e1, q⟩ => ?_
    simp only [e1]
    exact q
@[simp] theorem RW_keys {Q : QI} : RW (mKeys m r s) Q ↔ RW (m r s) fun d s1 => ∃ l kvs, d = .loc l ∧ s1[l]? = some (.lok kvs) ∧ Q (kvs.map fun kv => keyV kv.1, [(l, .lok kvs)]) s1 := by
  simp only [mKeys, RW_bind]
  constructor
  · intro h
    refine h.imp fun d s1 q => ?_
    split at q <;> try exact q.elim
    split at q <;> try exact q.elim
    exact ⟨_, _, rfl, by assumption, q⟩
  · intro h
    refine h.imp fun d s1 ⟨l, kvs, e, h1, q⟩ => ?_
    subst e
    simp only [h1]
    exact q
/-- a dict locked meanwhile -/
theorem RW_lock {mo : ME} {m : Env → Sto → R α} {Q : α → Sto → Prop} {l : Nat} {kvs : List (Key × D)} (h : lockAt mo r s = some (l, kvs)) (q : RW (m r (s.set l (.lok kvs))) fun a s1 => ∃ kvs', s1[l]? = some (.lok kvs') ∧ Q a (s1.set l (.dct kvs'))) : RW (mLock mo m r s) Q := by
  unfold mLock
  rw [h]
  obtain ⟨a, s1, e, kvs', h1, h2⟩ := q.get
  simp only [e, unlock, h1]
  exact h2
end
section
variable {s : Sto} {r : Env} {Qn Qb Qc : Env → Sto → Prop} {Qr : D → Sto → Prop} {m n o : ME} {ma : MA} {u : MT} {a b : MS}
@[simp] theorem SW_next : SW (mNext r s) Qn Qr Qb Qc ↔ Qn r s := Iff.rfl
@[simp] theorem SW_brk : SW (mBrk r s) Qn Qr Qb Qc ↔ Qb r s := Iff.rfl
@[simp] theorem SW_ct : SW (mCt r s) Qn Qr Qb Qc ↔ Qc r s := Iff.rfl
@[simp] theorem SW_never : SW (mNever r s) Qn Qr Qb Qc ↔ False := Iff.rfl
@[simp] theorem SW_ret : SW (mRet m r s) Qn Qr Qb Qc ↔ RW (m r s) Qr := by
  unfold mRet
  cases m r s <;> simp [SW, RW]
@[simp] theorem SW_drop : SW (mDrop m r s) Qn Qr Qb Qc ↔ RW (m r s) fun _ s1 => Qn r s1 := by
  unfold mDrop
  cases m r s <;> simp [SW, RW]
@[simp] theorem SW_asg {g : MG} : SW (mAsg m g r s) Qn Qr Qb Qc ↔ RW (m r s) fun d s1 => RW (g d r s1) Qn := by
  unfold mAsg
  cases m r s with
  | ok d s1 => cases h : g d r s1 <;> simp [SW, RW, h]
  | exc _ _ => simp [SW, RW]
  | bad => simp [SW, RW]
@[simp] theorem RW_gName {i : Nat} {d : D} {Q : Env → Sto → Prop} : RW (mgName i d r s) Q ↔ Q (r.set i (some d)) s := Iff.rfl
@[simp] theorem RW_gNil {ds : List D} {Q : Env → Sto → Prop} : RW (mgNil ds r s) Q ↔ ds = [] ∧ Q r s := by
  cases ds <;> simp [mgNil]
@[simp] theorem RW_gCons {g : MG} {gs : List D → Env → Sto → R Env} {ds : List D} {Q : Env → Sto → Prop} : RW (mgCons g gs ds r s) Q ↔ ∃ d rest, ds = d :: rest ∧ RW (g d r s) fun r1 s1 => RW (gs rest r1 s1) Q := by
  cases ds with
  | nil => simp [mgCons]
  | cons d rest =>
    simp only [mgCons, RW_bind]
    constructor
    · exact fun h => ⟨d, rest, rfl, h⟩
    · rintro ⟨d, rest, e, h⟩
      cases e
      exact h
@[simp] theorem RW_gTup {k : Nat} {gs : List D → Env → Sto → R Env} {d : D} {Q : Env → Sto → Prop} : RW (mgTup k gs d r s) Q ↔ ∃ ds, d = .tup ds ∧ ds.length = k ∧ RW (gs ds r s) Q := by
  cases d <;> simp [mgTup]
  split <;> simp_all
@[simp] theorem SW_seq : SW (mSeq a b r s) Qn Qr Qb Qc ↔ SW (a r s) (fun r1 s1 => SW (b r1 s1) Qn Qr Qb Qc) Qr Qb Qc := by
  unfold mSeq
  cases h : a r s <;> simp [SW, h]
@[simp] theorem SW_if : SW (mIf u a b r s) Qn Qr Qb Qc ↔ RW (u r s) fun k s1 => if k = true then SW (a r s1) Qn Qr Qb Qc else SW (b r s1) Qn Qr Qb Qc := by
  unfold mIf
  cases h : u r s with
  | ok k s1 => cases k <;> simp [SW, RW]
  | exc _ _ => simp [SW, RW]
  | bad => simp [SW, RW]
@[simp] theorem SW_par {i j : Nat} : SW (mPar i j ma r s) Qn Qr Qb Qc ↔ RW (ma r s) fun ds s1 => ∃ d e, ds = [d, e] ∧ Qn ((r.set i (some d)).set j (some e)) s1 := by
  unfold mPar
  cases h : ma r s with
  | ok ds s1 =>
    simp only [RW_ok]
    constructor
    · intro q
      split at q
      · rename_i he
        cases he
        exact ⟨_, _, rfl, q⟩
      · exact q.elim
      · exact q.elim
      · exact q.elim
    · rintro ⟨d, e, rfl, q⟩
      exact q
  | exc _ _ => simp [SW, RW]
  | bad => simp [SW, RW]
@[simp] theorem SW_setFld {cs : List Addr} {f : Str} {mo mv : ME} : SW (mSetFld cs f mo mv r s) Qn Qr Qb Qc ↔ RW (mv r s) fun v s1 => RW (mo r s1) fun d s2 => ∃ l C fs, d = .loc l ∧ s2[l]? = some (.ins C fs) ∧ C ∈ cs ∧ fs.length < 1000 ∧ Qn r (s2.set l (.ins C (putD f v fs))) := by
  unfold mSetFld
  cases h : mv r s with
  | ok v s1 =>
    simp only [RW_ok]
    cases h2 : mo r s1 with
    | ok d s2 =>
      simp only [RW_ok]
      constructor
      · intro q
        split at q <;> try exact q.elim
        · rename_i l he
          cases he
          split at q <;> try exact q.elim
          split at q <;> try exact q.elim
          rename_i hc
          exact ⟨_, _, _, rfl, by assumption, hc.1, hc.2, q⟩
      · rintro ⟨l, C, fs, rfl, e2, e3, e4, q⟩
        simp only [e2, e3, e4, and_self, if_true]
        exact q
    | exc _ _ => simp [SW, RW]
    | bad => simp [SW, RW]
  | exc _ _ => simp [SW, RW]
  | bad => simp [SW, RW]
@[simp] theorem SW_setIx {mv mo mi : ME} : SW (mSetIx mv mo mi r s) Qn Qr Qb Qc ↔ RW (mv r s) fun v s1 => RW (mo r s1) fun o s2 => RW (mi r s2) fun i s3 => ∃ s4, gSet o i v s3 = some s4 ∧ Qn r s4 := by
  unfold mSetIx
  cases h : mv r s with
  | ok v s1 =>
    simp only [RW_ok]
    cases h2 : mo r s1 with
    | ok d s2 =>
      simp only [RW_ok]
      cases h3 : mi r s2 with
      | ok i s3 =>
        simp only [RW_ok]
        cases h4 : gSet d i v s3 <;> simp [SW]
      | exc _ _ => simp [SW, RW]
      | bad => simp [SW, RW]
    | exc _ _ => simp [SW, RW]
    | bad => simp [SW, RW]
  | exc _ _ => simp [SW, RW]
  | bad => simp [SW, RW]
@[simp] theorem SW_for {mi : MI} {mg : MG} : SW (mFor mi mg a r s) Qn Qr Qb Qc ↔ RW (mi r s) fun q s1 => SW (mForGo q.2 mg a q.1 r s1) Qn Qr Qb Qc := by
  unfold mFor
  cases h : mi r s with
  | ok q s1 => obtain ⟨ds, gs⟩ := q; simp
  | exc _ _ => simp [SW, RW]
  | bad => simp [SW, RW]
/-- a loop -/
theorem for_go {gs : List (Nat × Ob)} {tg : MG} {ds : List D} (Inv : Nat → Env → Sto → Prop) (hg : ∀ i r s, i ≤ ds.length → Inv i r s → guard gs s = true)
    (hs : ∀ i d r s, ds[i]? = some d → Inv i r s → RW (tg d r s) fun r1 s1 => SW (a r1 s1) (Inv (i + 1)) Qr Qn (Inv (i + 1))) (he : ∀ r s, Inv ds.length r s → Qn r s) : ∀ (k : Nat) (r : Env) (s : Sto), k ≤ ds.length → Inv k r s → SW (mForGo gs tg a (ds.drop k) r s) Qn Qr Qb Qc := by
  have key : ∀ (j k : Nat) (r : Env) (s : Sto), k + j = ds.length → Inv k r s → SW (mForGo gs tg a (ds.drop k) r s) Qn Qr Qb Qc := by
    intro j
    induction j with
    | zero =>
      intro k r s hk hi
      have : k = ds.length := by omega
      subst this
      rw [List.drop_length]
      simp only [mForGo]
      rw [if_pos (hg _ _ _ (Nat.le_refl _) hi)]
      exact he _ _ hi
    | succ j ih =>
      intro k r s hk hi
      have hlt : k < ds.length := by omega
      rw [List.drop_eq_getElem_cons hlt]
      simp only [mForGo]
      rw [if_pos (hg _ _ _ (Nat.le_of_lt hlt) hi)]
      have q := hs k ds[k] r s (List.getElem?_eq_getElem hlt) hi
      obtain ⟨r1, s1, e, q⟩ := q.get
      simp only [e]
      cases hb : a r1 s1 with
      | nx r2 s2 => rw [hb] at q; exact ih (k + 1) r2 s2 (by omega) q
      | ct r2 s2 => rw [hb] at q; exact ih (k + 1) r2 s2 (by omega) q
      | bk r2 s2 => rw [hb] at q; exact q
      | rt d s2 => rw [hb] at q; exact q
      | exc _ _ _ => rw [hb] at q; exact q.elim
      | bad => rw [hb] at q; exact q.elim
  intro k r s hk hi
  exact key (ds.length - k) k r s (by omega) hi
theorem SW_forGo {gs : List (Nat × Ob)} {tg : MG} {ds : List D} (Inv : Nat → Env → Sto → Prop) (h0 : Inv 0 r s) (hg : ∀ i r s, i ≤ ds.length → Inv i r s → guard gs s = true)
    (hs : ∀ i d r s, ds[i]? = some d → Inv i r s → RW (tg d r s) fun r1 s1 => SW (a r1 s1) (Inv (i + 1)) Qr Qn (Inv (i + 1))) (he : ∀ r s, Inv ds.length r s → Qn r s) : SW (mForGo gs tg a ds r s) Qn Qr Qb Qc := by
  have := for_go (Qb := Qb) (Qc := Qc) Inv hg hs he 0 r s (Nat.zero_le _) h0
  simpa using this
end
@[simp] theorem RW_def {nN np : Nat} {mb : MS} {ds : List D} {s : Sto} {Q : D → Sto → Prop} : RW (mDef nN np mb ds s) Q ↔ ds.length = np ∧ SW (mb (ds.map some ++ List.replicate (nN - np) none) s) (fun _ s1 => Q .non s1) Q (fun _ _ => False) (fun _ _ => False) := by
  unfold mDef
  split
  · rename_i h
    simp only [h, true_and]
    cases mb (ds.map some ++ List.replicate (nN - np) none) s <;> simp [SW, RW]
  · rename_i h
    simp [h]
@[simp] theorem guard_nil {s : Sto} : guard [] s = true := by simp [guard]
@[simp] theorem guard_one {s : Sto} {n : Nat} {ob : Ob} : guard [(n, ob)] s = true ↔ s[n]? = some ob := by simp [guard]
theorem guard_two {s : Sto} {g1 g2 : List (Nat × Ob)} : guard (g1 ++ g2) s = true ↔ guard g1 s = true ∧ guard g2 s = true := by
  simp only [guard_iff, List.mem_append]
  constructor
  · intro h; exact ⟨fun q hq => h q (.inl hq), fun q hq => h q (.inr hq)⟩
  · rintro ⟨h1, h2⟩ q (hq | hq)
    · exact h1 q hq
    · exact h2 q hq
/-! ### comprehensions -/
section
variable {gs : List (Nat × Ob)} {tg : MG} {tt : MT} {te tk tv : ME} {r : Env} {ds : List D}
theorem RW_lcGo {s : Sto} {Q : List D → Sto → Prop} (Inv : Nat → Sto → List D → Prop) (h0 : Inv 0 s []) (hg : ∀ i s acc, i ≤ ds.length → Inv i s acc → guard gs s = true)
    (hs : ∀ i d s acc, ds[i]? = some d → Inv i s acc → RW (tg d r s) fun r1 s1 => RW (tt r1 s1) fun b s2 => if b = true then RW (te r1 s2) (fun y s3 => acc.length < sizeLine ∧ Inv (i + 1) s3 (acc ++ [y])) else Inv (i + 1) s2 acc)
    (he : ∀ s acc, Inv ds.length s acc → Q acc s) : RW (mLcGo gs tg tt te r ds s []) Q := by
  have key : ∀ (j k : Nat) (s : Sto) (acc : List D), k + j = ds.length → Inv k s acc → RW (mLcGo gs tg tt te r (ds.drop k) s acc) Q := by
    intro j
    induction j with
    | zero =>
      intro k s acc hk hi
      have : k = ds.length := by omega
      subst this
      rw [List.drop_length]
      simp only [mLcGo]
      rw [if_pos (hg _ _ _ (Nat.le_refl _) hi)]
      exact he _ _ hi
    | succ j ih =>
      intro k s acc hk hi
      have hlt : k < ds.length := by omega
      rw [List.drop_eq_getElem_cons hlt]
      simp only [mLcGo]
      rw [if_pos (hg _ _ _ (Nat.le_of_lt hlt) hi)]
      obtain ⟨r1, s1, e, q⟩ := (hs k ds[k] s acc (List.getElem?_eq_getElem hlt) hi).get
      simp only [e]
      obtain ⟨b, s2, e2, q⟩ := q.get
      simp only [e2]
      cases b with
      | false => exact ih (k + 1) s2 acc (by omega) (by simpa using q)
      | true =>
        simp only [if_true] at q
        obtain ⟨y, s3, e3, hl, q⟩ := q.get
        simp only [e3]
        rw [if_pos hl]
        exact ih (k + 1) s3 _ (by omega) q
  have := key ds.length 0 s [] (by omega) h0
  simpa using this
/-- nothing changes: filtered and mapped -/
theorem lc_pure {s : Sto} {f : D → D} {b : D → Bool} (hg : guard gs s = true) (hl : ds.length ≤ sizeLine) (h : ∀ d ∈ ds, ∃ r1, tg d r s = .ok r1 s ∧ tt r1 s = .ok (b d) s ∧ (b d = true → te r1 s = .ok (f d) s)) :
    mLcGo gs tg tt te r ds s [] = .ok ((ds.filter b).map f) s := by
  have key : ∀ (es : List D) (acc : List D), (∀ d ∈ es, d ∈ ds) → acc.length + es.length ≤ sizeLine → mLcGo gs tg tt te r es s acc = .ok (acc ++ (es.filter b).map f) s := by
    intro es
    induction es with
    | nil => intro acc _ _; simp [mLcGo, hg]
    | cons d es ih =>
      intro acc hm hl
      obtain ⟨r1, h1, h2, h3⟩ := h d (hm d List.mem_cons_self)
      simp only [List.length_cons] at hl
      simp only [mLcGo]
      rw [if_pos hg]
      simp only [h1, h2]
      cases hb : b d with
      | false =>
        simp only
        rw [ih acc (fun x hx => hm x (List.mem_cons_of_mem _ hx)) (by omega)]
        simp [hb]
      | true =>
        simp only [h3 hb]
        rw [if_pos (by omega), ih _ (fun x hx => hm x (List.mem_cons_of_mem _ hx)) (by simp; omega)]
        simp [hb]
  simpa using key ds [] (fun d hd => hd) (by simpa using hl)
theorem dc_pure {s : Sto} {f : D → Key × D} {b : D → Bool} (hg : guard gs s = true) (hl : ds.length ≤ sizeLine) (h : ∀ d ∈ ds, ∃ r1 k, tg d r s = .ok r1 s ∧ tt r1 s = .ok (b d) s ∧ (b d = true → tk r1 s = .ok k s ∧ keyD k = some (f d).1 ∧ tv r1 s = .ok (f d).2 s)) :
    mDcGo gs tg tt tk tv r ds s [] = .ok (((ds.filter b).map f).foldl (fun acc kv => dPut acc kv.1 kv.2) []) s := by
  have plen : ∀ (acc : List (Key × D)) (k : Key) (v : D), (dPut acc k v).length ≤ acc.length + 1 := fun acc k v => by
    unfold dPut
    split <;> simp
  have key : ∀ (es : List D) (acc : List (Key × D)), (∀ d ∈ es, d ∈ ds) → acc.length + es.length ≤ sizeLine → mDcGo gs tg tt tk tv r es s acc = .ok (((es.filter b).map f).foldl (fun acc kv => dPut acc kv.1 kv.2) acc) s := by
    intro es
    induction es with
    | nil => intro acc _ _; simp [mDcGo, hg]
    | cons d es ih =>
      intro acc hm hl
      obtain ⟨r1, k, h1, h2, h3⟩ := h d (hm d List.mem_cons_self)
      simp only [List.length_cons] at hl
      simp only [mDcGo]
      rw [if_pos hg]
      simp only [h1, h2]
      cases hb : b d with
      | false =>
        simp only
        rw [ih acc (fun x hx => hm x (List.mem_cons_of_mem _ hx)) (by omega)]
        simp [hb]
      | true =>
        obtain ⟨h4, h5, h6⟩ := h3 hb
        simp only [h4, h5, h6]
        have := plen acc (f d).1 (f d).2
        rw [if_pos (by omega), ih _ (fun x hx => hm x (List.mem_cons_of_mem _ hx)) (by omega)]
        simp [hb]
  exact key ds [] (fun d hd => hd) (by simpa using hl)
end
theorem small24 {n : Nat} (h : n ≤ 1000000) : n ≤ sizeLine := by rw [sizeLine_eq]; omega
end DL
namespace DL
open PySem PySem.Spec L2
open PyProof.Rows hiding St
/-! ### small steps -/
section
variable {s : Sto} {i j : Int} {d : D} {n : Nat} {xs ys : List D} {b c : Bool} {x y : Str}
@[simp] theorem gAdd_int : gAdd (.int i) (.int j) s = some (.int (i + j), s) := rfl
@[simp] theorem gAdd_ib : gAdd (.int i) (.bl b) s = some (.int (i + b2i b), s) := rfl
@[simp] theorem gSub_int : gSub (.int i) (.int j) s = some (.int (i - j), s) := rfl
@[simp] theorem gMul_l (h : -(2 ^ 64) < i ∧ i < 2 ^ 64) : gMul (.int i) (.int j) s = some (.int (i * j), s) := by simp only [gMul]; rw [if_pos (.inl h)]
@[simp] theorem gMul_r (h : -(2 ^ 64) < j ∧ j < 2 ^ 64) : gMul (.int i) (.int j) s = some (.int (i * j), s) := by simp only [gMul]; rw [if_pos (.inr h)]
@[simp] theorem gMod_int (h : 0 < j) : gMod (.int i) (.int j) s = some (.int (i % j), s) := by simp only [gMod]; rw [if_pos h]
@[simp] theorem gFdiv_int (h : 0 < j ∧ j < 1073741824) : gFdiv (.int i) (.int j) s = some (.int (i / j), s) := by simp only [gFdiv]; rw [if_pos h]
@[simp] theorem gPow_int (h : 0 ≤ j ∧ j ≤ 1000000 ∧ i.natAbs < 2 ^ 64) : gPow (.int i) (.int j) s = some (.int (i ^ j.toNat), s) := by simp only [gPow]; rw [if_pos h]
@[simp] theorem gEq_int : gEq (.int i) (.int j) s = some (.bl (decide (i = j)), s) := rfl
@[simp] theorem gNe_int : gNe (.int i) (.int j) s = some (.bl (!decide (i = j)), s) := rfl
@[simp] theorem gEq_bl : gEq (.bl b) (.bl c) s = some (.bl (decide (b = c)), s) := rfl
@[simp] theorem gNe_bl : gNe (.bl b) (.bl c) s = some (.bl (!decide (b = c)), s) := rfl
@[simp] theorem gEq_str : gEq (.str x) (.str y) s = some (.bl (decide (x = y)), s) := rfl
@[simp] theorem gLt_int : gLt (.int i) (.int j) s = some (.bl (decide (i < j)), s) := rfl
@[simp] theorem gLe_int : gLe (.int i) (.int j) s = some (.bl (decide (i ≤ j)), s) := rfl
@[simp] theorem gGt_int : gGt (.int i) (.int j) s = some (.bl (decide (j < i)), s) := rfl
@[simp] theorem gGe_int : gGe (.int i) (.int j) s = some (.bl (decide (j ≤ i)), s) := rfl
@[simp] theorem gIs_nn : gIs .non .non s = some (.bl true, s) := rfl
@[simp] theorem gIs_in : gIs (.int i) .non s = some (.bl false, s) := rfl
@[simp] theorem gIs_tn : gIs (.tup xs) .non s = some (.bl false, s) := rfl
@[simp] theorem gIs_ln : gIs (.loc n) .non s = some (.bl false, s) := rfl
@[simp] theorem gIs_bn : gIs (.bl b) .non s = some (.bl false, s) := rfl
@[simp] theorem gIs_sn : gIs (.str x) .non s = some (.bl false, s) := rfl
@[simp] theorem gIs_bb : gIs (.bl b) (.bl c) s = some (.bl (decide (b = c)), s) := rfl
@[simp] theorem gIsNot_nn : gIsNot .non .non s = some (.bl false, s) := rfl
@[simp] theorem gIsNot_in : gIsNot (.int i) .non s = some (.bl true, s) := rfl
@[simp] theorem gIsNot_tn : gIsNot (.tup xs) .non s = some (.bl true, s) := rfl
@[simp] theorem gIsNot_ln : gIsNot (.loc n) .non s = some (.bl true, s) := rfl
@[simp] theorem gIsNot_bn : gIsNot (.bl b) .non s = some (.bl true, s) := rfl
@[simp] theorem gIsNot_sn : gIsNot (.str x) .non s = some (.bl true, s) := rfl
@[simp] theorem gIsNot_bb : gIsNot (.bl b) (.bl c) s = some (.bl (!decide (b = c)), s) := rfl
@[simp] theorem gInt_int : gInt [.int i] s = some (.int i, s) := rfl
@[simp] theorem gInt_bl : gInt [.bl b] s = some (.int (if b then 1 else 0), s) := rfl
@[simp] theorem gAbs_int : gAbs [.int i] s = some (.int (if i < 0 then -i else i), s) := rfl
@[simp] theorem gLen_tup : gLen [.tup xs] s = some (.int xs.length, s) := rfl
theorem gLen_lst (h : s[n]? = some (.lst xs)) : gLen [.loc n] s = some (.int xs.length, s) := by simp [gLen, lenD, h]
@[simp] theorem gIx_tup : gIx (.tup xs) (.int j) s = (atI xs j).map fun z => (z, s) := rfl
theorem gIx_lst (h : s[n]? = some (.lst xs)) : gIx (.loc n) (.int j) s = (atI xs j).map fun z => (z, s) := by simp [gIx, h]
theorem gIx_dct {kvs : List (Key × D)} (h : s[n]? = some (.dct kvs)) : gIx (.loc n) d s = (keyD d).bind fun k => (dGet kvs k).map fun z => (z, s) := by simp [gIx, h]
theorem gIx_lok {kvs : List (Key × D)} (h : s[n]? = some (.lok kvs)) : gIx (.loc n) d s = (keyD d).bind fun k => (dGet kvs k).map fun z => (z, s) := by simp [gIx, h]
theorem gSet_lst {k : Int} {m : Nat} {v : D} (h : s[n]? = some (.lst xs)) (hk : ixN xs.length k = some m) : gSet (.loc n) (.int k) v s = some (s.set n (.lst (xs.set m v))) := by simp [gSet, h, hk]
theorem ixN_nn {m : Nat} (h0 : 0 ≤ i) (h : i.toNat < m) : ixN m i = some i.toNat := by
  unfold ixN
  by_cases hc : i < 0
  · omega
  · first
      | (simp only [hc, if_false]; rw [if_pos h])
      | (simp [hc]; omega)
      | simp_all
theorem atI_nn (h0 : 0 ≤ i) (h : i.toNat < xs.length) : atI xs i = xs[i.toNat]? := by
  unfold atI
  rw [ixN_nn h0 h]
  rfl
theorem atI_in {a : D} (h0 : 0 ≤ i) (h : xs[i.toNat]? = some a) : atI xs i = some a := by
  rw [atI_nn h0 (List.getElem?_eq_some_iff.mp h).1, h]
@[simp] theorem atI_0 {a : D} : atI (a :: xs) 0 = some a := atI_in (by decide) rfl
@[simp] theorem atI_1 {a e : D} : atI (a :: e :: xs) 1 = some e := atI_in (by decide) rfl
@[simp] theorem atI_2 {a e f : D} : atI (a :: e :: f :: xs) 2 = some f := atI_in (by decide) rfl
@[simp] theorem atI_3 {a e f g : D} : atI (a :: e :: f :: g :: xs) 3 = some g := atI_in (by decide) rfl
@[simp] theorem atI_4 {a e f g k : D} : atI (a :: e :: f :: g :: k :: xs) 4 = some k := atI_in (by decide) rfl
@[simp] theorem gIsi_tup {t : String} : gIsi [.tup xs, .con (.ty t)] s = (kitB "tuple" t).map fun b => (.bl b, s) := rfl
@[simp] theorem gIsi_int {t : String} : gIsi [.int i, .con (.ty t)] s = (kitB "int" t).map fun b => (.bl b, s) := rfl
@[simp] theorem gIsi_bl {t : String} : gIsi [.bl b, .con (.ty t)] s = (kitB "bool" t).map fun b => (.bl b, s) := rfl
@[simp] theorem gIsi_str {t : String} : gIsi [.str x, .con (.ty t)] s = (kitB "str" t).map fun b => (.bl b, s) := rfl
@[simp] theorem gIsi_non {t : String} : gIsi [.non, .con (.ty t)] s = (kitB "NoneType" t).map fun b => (.bl b, s) := rfl
end
end DL
namespace DL
open PySem PySem.Spec L2
open PyProof.Rows hiding St
@[simp] theorem kb_NoneType_int : kitB "NoneType" "int" = some false := by decide +kernel
@[simp] theorem kb_NoneType_bool : kitB "NoneType" "bool" = some false := by decide +kernel
@[simp] theorem kb_NoneType_tuple : kitB "NoneType" "tuple" = some false := by decide +kernel
@[simp] theorem kb_NoneType_list : kitB "NoneType" "list" = some false := by decide +kernel
@[simp] theorem kb_NoneType_dict : kitB "NoneType" "dict" = some false := by decide +kernel
@[simp] theorem kb_NoneType_str : kitB "NoneType" "str" = some false := by decide +kernel
@[simp] theorem kb_bool_int : kitB "bool" "int" = some true := by decide +kernel
@[simp] theorem kb_bool_bool : kitB "bool" "bool" = some true := by decide +kernel
@[simp] theorem kb_bool_tuple : kitB "bool" "tuple" = some false := by decide +kernel
@[simp] theorem kb_bool_list : kitB "bool" "list" = some false := by decide +kernel
@[simp] theorem kb_bool_dict : kitB "bool" "dict" = some false := by decide +kernel
@[simp] theorem kb_bool_str : kitB "bool" "str" = some false := by decide +kernel
@[simp] theorem kb_int_int : kitB "int" "int" = some true := by decide +kernel
@[simp] theorem kb_int_bool : kitB "int" "bool" = some false := by decide +kernel
@[simp] theorem kb_int_tuple : kitB "int" "tuple" = some false := by decide +kernel
@[simp] theorem kb_int_list : kitB "int" "list" = some false := by decide +kernel
@[simp] theorem kb_int_dict : kitB "int" "dict" = some false := by decide +kernel
@[simp] theorem kb_int_str : kitB "int" "str" = some false := by decide +kernel
@[simp] theorem kb_str_int : kitB "str" "int" = some false := by decide +kernel
@[simp] theorem kb_str_bool : kitB "str" "bool" = some false := by decide +kernel
@[simp] theorem kb_str_tuple : kitB "str" "tuple" = some false := by decide +kernel
@[simp] theorem kb_str_list : kitB "str" "list" = some false := by decide +kernel
@[simp] theorem kb_str_dict : kitB "str" "dict" = some false := by decide +kernel
@[simp] theorem kb_str_str : kitB "str" "str" = some true := by decide +kernel
@[simp] theorem kb_tuple_int : kitB "tuple" "int" = some false := by decide +kernel
@[simp] theorem kb_tuple_bool : kitB "tuple" "bool" = some false := by decide +kernel
@[simp] theorem kb_tuple_tuple : kitB "tuple" "tuple" = some true := by decide +kernel
@[simp] theorem kb_tuple_list : kitB "tuple" "list" = some false := by decide +kernel
@[simp] theorem kb_tuple_dict : kitB "tuple" "dict" = some false := by decide +kernel
@[simp] theorem kb_tuple_str : kitB "tuple" "str" = some false := by decide +kernel
@[simp] theorem kb_list_int : kitB "list" "int" = some false := by decide +kernel
@[simp] theorem kb_list_bool : kitB "list" "bool" = some false := by decide +kernel
@[simp] theorem kb_list_tuple : kitB "list" "tuple" = some false := by decide +kernel
@[simp] theorem kb_list_list : kitB "list" "list" = some true := by decide +kernel
@[simp] theorem kb_list_dict : kitB "list" "dict" = some false := by decide +kernel
@[simp] theorem kb_list_str : kitB "list" "str" = some false := by decide +kernel
@[simp] theorem kb_dict_int : kitB "dict" "int" = some false := by decide +kernel
@[simp] theorem kb_dict_bool : kitB "dict" "bool" = some false := by decide +kernel
@[simp] theorem kb_dict_tuple : kitB "dict" "tuple" = some false := by decide +kernel
@[simp] theorem kb_dict_list : kitB "dict" "list" = some false := by decide +kernel
@[simp] theorem kb_dict_dict : kitB "dict" "dict" = some true := by decide +kernel
@[simp] theorem kb_dict_str : kitB "dict" "str" = some false := by decide +kernel
end DL
namespace DL
open PySem PySem.Spec L2
open PyProof.Rows hiding St
/-- an assertion between -/
theorem SW.mid {x : S} {Qn Qb Qc : Env → Sto → Prop} {Qr : D → Sto → Prop} (P : Env → Sto → Prop) (h : SW x P (fun _ _ => False) (fun _ _ => False) (fun _ _ => False)) (f : ∀ r s, P r s → Qn r s) : SW x Qn Qr Qb Qc :=
  SW.imp h f (fun _ _ z => z.elim) (fun _ _ z => z.elim) (fun _ _ z => z.elim)
theorem SW.midr {x : S} {Qn Qb Qc : Env → Sto → Prop} {Qr : D → Sto → Prop} (P : Env → Sto → Prop) (h : SW x P Qr (fun _ _ => False) (fun _ _ => False)) (f : ∀ r s, P r s → Qn r s) : SW x Qn Qr Qb Qc :=
  SW.imp h f (fun _ _ z => z) (fun _ _ z => z.elim) (fun _ _ z => z.elim)
theorem len_of {s : Sto} {n : Nat} {ob : Ob} (h : s[n]? = some ob) : n < s.length := (List.getElem?_eq_some_iff.mp h).1
theorem set_same {s : Sto} {n : Nat} {ob ob' : Ob} (h : s[n]? = some ob) : (s.set n ob')[n]? = some ob' := List.getElem?_set_self (len_of h)
theorem set_other {s : Sto} {n m : Nat} {ob : Ob} (h : n ≠ m) : (s.set n ob)[m]? = s[m]? := List.getElem?_set_ne h
end DL
namespace DL
open PySem PySem.Spec L2
open PyProof.Rows hiding St
@[simp high] theorem RW_gCons2 {g : MG} {gs : List D → Env → Sto → R Env} {d : D} {ds : List D} {r : Env} {s : Sto} {Q : Env → Sto → Prop} : RW (mgCons g gs (d :: ds) r s) Q ↔ RW (g d r s) fun r1 s1 => RW (gs ds r1 s1) Q := by simp [mgCons]
@[simp high] theorem RW_gTup2 {k : Nat} {gs : List D → Env → Sto → R Env} {ds : List D} {r : Env} {s : Sto} {Q : Env → Sto → Prop} : RW (mgTup k gs (.tup ds) r s) Q ↔ ds.length = k ∧ RW (gs ds r s) Q := by
  simp only [mgTup]
  split <;> simp_all
end DL
namespace DL
@[simp] theorem ex2a {α β : Sort _} {x : α} {y : β} {P : α → β → Prop} : (∃ a b, (x = a ∧ b = y) ∧ P a b) ↔ P x y := ⟨fun ⟨_, _, ⟨e1, e2⟩, h⟩ => by subst e1 e2; exact h, fun h => ⟨x, y, ⟨rfl, rfl⟩, h⟩⟩
@[simp] theorem ex2b {α β : Sort _} {x : α} {y : β} {P : α → β → Prop} : (∃ a b, (x = a ∧ y = b) ∧ P a b) ↔ P x y := ⟨fun ⟨_, _, ⟨e1, e2⟩, h⟩ => by subst e1 e2; exact h, fun h => ⟨x, y, ⟨rfl, rfl⟩, h⟩⟩
end DL
end
/-! ### P3 -/
section
set_option linter.all false
set_option maxRecDepth 100000
/-! P3: comprehensions that change nothing; rows of whole numbers. -/
namespace DL
open PySem PySem.Spec L2
open PyProof.Rows hiding St
theorem RW.eq {α : Type} {r : R α} {s : Sto} {v : α} (h : RW r fun y s' => s' = s ∧ y = v) : r = .ok v s := by
  obtain ⟨a, s', e, rfl, rfl⟩ := h.get
  exact e
section
variable {gs : List (Nat × Ob)} {tg : MG} {tt : MT} {te tk tv : ME} {r : Env} {ds : List D} {s : Sto} {Q : List D → Sto → Prop}
theorem lc_rw {f : D → D} {b : D → Bool} (hg : guard gs s = true) (hl : ds.length ≤ sizeLine)
    (h : ∀ d ∈ ds, RW (tg d r s) fun r1 s1 => s1 = s ∧ RW (tt r1 s) fun k s2 => s2 = s ∧ k = b d ∧ (b d = true → RW (te r1 s) fun y s3 => s3 = s ∧ y = f d)) (q : Q ((ds.filter b).map f) s) : RW (mLcGo gs tg tt te r ds s []) Q := by
  refine RW.of (lc_pure (f := f) (b := b) hg hl fun d hd => ?_) q
  obtain ⟨r1, s1, e1, rfl, h2⟩ := (h d hd).get
  obtain ⟨k, s2, e2, rfl, rfl, h3⟩ := h2.get
  exact ⟨r1, e1, e2, fun hb => (h3 hb).eq⟩
/-- over whole numbers -/
theorem lc_ints {xs : List Int} {f : Int → D} {b : Int → Bool} (hg : guard gs s = true) (hl : xs.length ≤ sizeLine)
    (h : ∀ x ∈ xs, RW (tg (.int x) r s) fun r1 s1 => s1 = s ∧ RW (tt r1 s) fun k s2 => s2 = s ∧ k = b x ∧ (b x = true → RW (te r1 s) fun y s3 => s3 = s ∧ y = f x)) (q : Q ((xs.filter b).map f) s) : RW (mLcGo gs tg tt te r (xs.map .int) s []) Q := by
  have e : ((xs.map D.int).filter (fun d => match d with | .int x => b x | _ => false)).map (fun d => match d with | .int x => f x | d => d) = (xs.filter b).map f := by
    rw [List.filter_map, List.map_map]
    rfl
  refine lc_rw (f := fun d => match d with | .int x => f x | d => d) (b := fun d => match d with | .int x => b x | _ => false) hg (by simpa using hl) (fun d hd => ?_) (by rw [e]; exact q)
  obtain ⟨x, hx, rfl⟩ := List.mem_map.mp hd
  exact h x hx
end
/-! ### sequences -/
/-- d is a tuple, or a list of the store -/
def SeqAt (s : Sto) (d : D) (xs : List D) : Prop := d = .tup xs ∨ ∃ n, d = .loc n ∧ s[n]? = some (.lst xs)
theorem SeqAt.tup {s : Sto} {xs : List D} : SeqAt s (.tup xs) xs := .inl rfl
theorem SeqAt.loc {s : Sto} {n : Nat} {xs : List D} (h : s[n]? = some (.lst xs)) : SeqAt s (.loc n) xs := .inr ⟨n, rfl, h⟩
theorem SeqAt.len {s : Sto} {d : D} {xs : List D} (h : SeqAt s d xs) : gLen [d] s = some (.int xs.length, s) := by
  rcases h with rfl | ⟨n, rfl, h⟩
  · rfl
  · exact gLen_lst h
theorem SeqAt.ix {s : Sto} {d : D} {xs : List D} (h : SeqAt s d xs) (j : Int) : gIx d (.int j) s = (atI xs j).map fun z => (z, s) := by
  rcases h with rfl | ⟨n, rfl, h⟩
  · rfl
  · exact gIx_lst h
theorem SeqAt.itS {s : Sto} {d : D} {xs : List D} (h : SeqAt s d xs) : itS s d = some xs := by
  rcases h with rfl | ⟨n, rfl, h⟩
  · rfl
  · simp [DL.itS, itL, h]
/-- all but the hand stays; more may come -/
def Ext (s s' : Sto) : Prop := s.length ≤ s'.length ∧ ∀ k, k ≠ 2 → k < s.length → s'[k]? = s[k]?
theorem Ext.refl {s : Sto} : Ext s s := ⟨Nat.le_refl _, fun _ _ _ => rfl⟩
theorem Ext.trans {s s1 s2 : Sto} (a : Ext s s1) (b : Ext s1 s2) : Ext s s2 := ⟨Nat.le_trans a.1 b.1, fun k h hk => (b.2 k h (Nat.lt_of_lt_of_le hk a.1)).trans (a.2 k h hk)⟩
theorem Ext.push {s s1 : Sto} (a : Ext s s1) {q : Sto} : Ext s (s1 ++ q) := ⟨by simp; have := a.1; omega, fun k h hk => by rw [List.getElem?_append_left (Nat.lt_of_lt_of_le hk a.1)]; exact a.2 k h hk⟩
theorem Ext.set {s s1 : Sto} (a : Ext s s1) {n : Nat} {ob : Ob} (hn : s.length ≤ n) : Ext s (s1.set n ob) := ⟨by simp; exact a.1, fun k h hk => by rw [List.getElem?_set_ne (by omega)]; exact a.2 k h hk⟩
theorem Ext.get {s s1 : Sto} (a : Ext s s1) {n : Nat} {ob : Ob} (h : s[n]? = some ob) (hn : n ≠ 2) : s1[n]? = some ob := by rw [a.2 n hn (len_of h)]; exact h
/-- a sequence that is not the hand stays -/
def SeqO (s : Sto) (d : D) (xs : List D) : Prop := d = .tup xs ∨ ∃ n, n ≠ 2 ∧ d = .loc n ∧ s[n]? = some (.lst xs)
theorem SeqO.at {s : Sto} {d : D} {xs : List D} (h : SeqO s d xs) : SeqAt s d xs := by
  rcases h with rfl | ⟨n, _, rfl, h⟩
  · exact .tup
  · exact .loc h
theorem SeqO.ext {s s1 : Sto} {d : D} {xs : List D} (h : SeqO s d xs) (e : Ext s s1) : SeqO s1 d xs := by
  rcases h with rfl | ⟨n, hn, rfl, h⟩
  · exact .inl rfl
  · exact .inr ⟨n, hn, rfl, e.get h hn⟩
theorem last_of {s : Sto} {ob : Ob} : (s ++ [ob])[s.length]? = some ob := by simp
theorem all_bls {bs : List Bool} : gAll (bs.map .bl) = some (.bl (bs.all id)) := by simp [gAll]
end DL
namespace DL
open PySem PySem.Spec L2
open PyProof.Rows hiding St
theorem src_lst {s : Sto} {n : Nat} {xs : List D} (h : s[n]? = some (.lst xs)) : srcD s (.loc n) = some (xs, [(n, .lst xs)]) := by simp [srcD, h]
@[simp] theorem src_tup {s : Sto} {xs : List D} : srcD s (.tup xs) = some (xs, []) := rfl
theorem one_le_size : 1 ≤ sizeLine := small24 (by decide)
end DL
namespace DL
open PySem PySem.Spec L2
open PyProof.Rows hiding St
end DL
namespace DL
open PySem PySem.Spec L2
open PyProof.Rows hiding St
section
variable {s : Sto} {xs : List D} {j : Int} {d : D} {kvs : List (Key × D)}
@[simp] theorem gLen_last : gLen [.loc s.length] (s ++ [.lst xs]) = some (.int xs.length, s ++ [.lst xs]) := gLen_lst last_of
@[simp] theorem gIx_last : gIx (.loc s.length) (.int j) (s ++ [.lst xs]) = (atI xs j).map fun z => (z, s ++ [.lst xs]) := gIx_lst last_of
@[simp] theorem src_last : srcD (s ++ [.lst xs]) (.loc s.length) = some (xs, [(s.length, .lst xs)]) := src_lst last_of
@[simp] theorem kvs_last : kvsOf (s ++ [.dct kvs]) s.length = some kvs := by simp [kvsOf]
end
end DL
namespace DL
open PySem PySem.Spec L2
open PyProof.Rows hiding St
end DL
end
/-! ### P2 -/
section
set_option linter.all false
set_option maxRecDepth 100000
/-! P2: the hand. -/
namespace DL
open PySem PySem.Spec L2
open PyProof.Rows hiding St
abbrev handD (i x y c : Int) : List D := [.loc 1, .int i, .int x, .int y, .int c]
/-- the hand stands at 2, its cells at 1 -/
def HS (s : Sto) : Prop := ∃ (cells : List Int) (i x y c : Int), s[1]? = some (.lst (cells.map .int)) ∧ s[2]? = some (.lst (handD i x y c)) ∧ 0 ≤ i
/-- only the hand has changed -/
def Fr (s s' : Sto) : Prop := s'.length = s.length ∧ ∀ k, k ≠ 2 → s'[k]? = s[k]?
theorem Fr.refl {s : Sto} : Fr s s := ⟨rfl, fun _ _ => rfl⟩
theorem Fr.trans {s s1 s2 : Sto} (a : Fr s s1) (b : Fr s1 s2) : Fr s s2 := ⟨b.1.trans a.1, fun k h => (b.2 k h).trans (a.2 k h)⟩
theorem Fr.set {s : Sto} {ob : Ob} : Fr s (s.set 2 ob) := ⟨by simp, fun k h => by rw [List.getElem?_set_ne (Ne.symm h)]⟩
theorem ix5_1 : ixN 5 1 = some 1 := rfl
theorem ix5_2 : ixN 5 2 = some 2 := rfl
theorem ix5_3 : ixN 5 3 = some 3 := rfl
theorem ix5_4 : ixN 5 4 = some 4 := rfl
/-- the hand with other numbers -/
theorem put_hand {s : Sto} {i x y c : Int} {k : Int} {n : Nat} {v : D} (h2 : s[2]? = some (.lst (handD i x y c))) (hk : ixN 5 k = some n) : gSet (.loc 2) (.int k) v s = some (s.set 2 (.lst ((handD i x y c).set n v))) := gSet_lst h2 hk
/-- the cells c, the numbers in the hand -/
def HC (cells : List Int) (s0 s : Sto) (i x y c : Int) : Prop := s[1]? = some (.lst (cells.map .int)) ∧ s[2]? = some (.lst (handD i x y c)) ∧ Fr s0 s
theorem HC.put {cells : List Int} {s0 s : Sto} {i x y c i' x' y' c' : Int} (h : HC cells s0 s i x y c) {k : Int} {n : Nat} {v : D} (hk : ixN 5 k = some n) (e : (handD i x y c).set n v = handD i' x' y' c') :
    ∃ s1, gSet (.loc 2) (.int k) v s = some s1 ∧ HC cells s0 s1 i' x' y' c' :=
  ⟨_, put_hand h.2.1 hk, by rw [set_other (by decide)]; exact h.1, by rw [e]; exact set_same h.2.1, h.2.2.trans Fr.set⟩
def HP (cells : List Int) (s0 s : Sto) : Prop := ∃ i x y c, HC cells s0 s i x y c ∧ 0 ≤ i
theorem draw_spec (A : Str → Addr) {many : Int} {s : Sto} (hm : 0 < many ∧ many < 1073741824) (h : HS s) : RW (l_law_draw A [.loc 2, .int many] s) fun d s' => ∃ r, d = .int r ∧ 0 ≤ r ∧ r < many ∧ HS s' ∧ Fr s s' := by
  obtain ⟨cells, i, x, y, c, h1, h2, hi⟩ := h
  unfold l_law_draw
  rw [RW_def]
  refine ⟨rfl, ?_⟩
  rw [SW_seq]
  refine SW.mid (fun r1 s1 => ∃ v, r1 = [some (.loc 2), some (.int many), v, none, none] ∧ HP cells s s1) ?_ ?_
  · have base : HC cells s s i x y c := ⟨h1, h2, Fr.refl⟩
    rw [SW_if]
    by_cases hx : x = 0
    · by_cases hl : i < cells.length
      · have hcell : (cells.map D.int)[i.toNat]? = some (.int cells[i.toNat]) := by
          rw [List.getElem?_map, List.getElem?_eq_getElem (by omega)]; rfl
        simp [gIx_lst h2, gIx_lst h1, gLen_lst h1, hx, hl, atI_in hi hcell]
        obtain ⟨s1, e1, b1⟩ := base.put (v := .int (i + 1)) (i' := i + 1) (x' := x) (y' := y) (c' := c) ix5_1 rfl
        refine ⟨s1, e1, ?_⟩
        obtain ⟨s2, e2, b2⟩ := b1.put (v := .int ((y * 69621 + cells[i.toNat] + 11) % 2147483629)) (i' := i + 1) (x' := x) (y' := (y * 69621 + cells[i.toNat] + 11) % 2147483629) (c' := c) ix5_3 rfl
        simp [gIx_lst b1.2.1]
        refine ⟨s2, e2, ?_⟩
        by_cases hb : 1000000000000000000 ≤ cells[i.toNat]
        · right
          refine ⟨hb, ?_⟩
          obtain ⟨s3, e3, b3⟩ := b2.put (v := .int cells[i.toNat]) (i' := i + 1) (x' := cells[i.toNat]) (y' := (y * 69621 + cells[i.toNat] + 11) % 2147483629) (c' := c) ix5_2 rfl
          exact ⟨s3, e3, _, _, _, _, b3, by omega⟩
        · left
          exact ⟨by omega, _, _, _, _, b2, by omega⟩
      · simp [gIx_lst h2, gIx_lst h1, gLen_lst h1, hx, hl]
        exact ⟨_, _, _, _, base, hi⟩
    · simp [gIx_lst h2, gIx_lst h1, gLen_lst h1, hx]
      exact ⟨_, _, _, _, base, hi⟩
  · rintro r1 s1 ⟨v, rfl, i, x, y, c, b, hi⟩
    rw [SW_seq]
    have hs : ∀ {s' : Sto} {i x y c : Int}, HC cells s s' i x y c → 0 ≤ i → HS s' ∧ Fr s s' := fun b hi => ⟨⟨cells, _, _, _, _, b.1, b.2.1, hi⟩, b.2.2⟩
    by_cases hx : 0 < x
    · simp [gIx_lst b.2.1, hx, hm]
      obtain ⟨s2, e2, b2⟩ := b.put (v := .int (x / many)) (i' := i) (x' := x / many) (y' := y) (c' := c) ix5_2 rfl
      exact ⟨s2, e2, Int.emod_nonneg _ (by omega), Int.emod_lt_of_pos _ hm.1, hs b2 hi⟩
    · simp [gIx_lst b.2.1, hx, hm]
      obtain ⟨s2, e2, b2⟩ := b.put (v := .int (c + 1)) (i' := i) (x' := x) (y' := y) (c' := c + 1) ix5_4 rfl
      refine ⟨s2, e2, ?_⟩
      simp [gIx_lst b2.2.1]
      generalize hn : (y + 7919 * (c + 1)) * 48271 % 2147483647 = n1
      have n1b : -(2 ^ 64) < n1 ∧ n1 < 2 ^ 64 := by omega
      rw [gMul_l (by simpa using n1b)]
      simp
      generalize hn2 : n1 * (n1 / 1009 + 69621) % 2147483647 = n2
      have n2b : -(2 ^ 64) < n2 ∧ n2 < 2 ^ 64 := by omega
      rw [gMul_l (by simpa using n2b)]
      simp [hm]
      exact ⟨Int.emod_nonneg _ (by omega), Int.emod_lt_of_pos _ hm.1, hs b2 hi⟩

theorem Fr.ext {s s1 : Sto} (h : Fr s s1) : Ext s s1 := ⟨by rw [h.1]; exact Nat.le_refl _, fun k hk _ => h.2 k hk⟩
theorem HS.push {s q : Sto} (h : HS s) : HS (s ++ q) := by
  obtain ⟨cells, i, x, y, c, h1, h2, hi⟩ := h
  exact ⟨cells, i, x, y, c, by rw [List.getElem?_append_left (len_of h1)]; exact h1, by rw [List.getElem?_append_left (len_of h2)]; exact h2, hi⟩
theorem HS.set {s : Sto} {n : Nat} {ob : Ob} (h : HS s) (hn : 3 ≤ n) : HS (s.set n ob) := by
  obtain ⟨cells, i, x, y, c, h1, h2, hi⟩ := h
  exact ⟨cells, i, x, y, c, by rw [List.getElem?_set_ne (by omega)]; exact h1, by rw [List.getElem?_set_ne (by omega)]; exact h2, hi⟩
theorem HS.len {s : Sto} (h : HS s) : 3 ≤ s.length := by
  obtain ⟨cells, i, x, y, c, h1, h2, hi⟩ := h
  exact len_of h2
theorem any_spec (A : Str → Addr) {s : Sto} {d : D} {xs : List D} (h : HS s) (hd : SeqO s d xs) (h0 : xs ≠ []) (hl : xs.length < 1073741824) : RW (l_law_any A [.loc 2, d] s) fun v s' => v ∈ xs ∧ HS s' ∧ Fr s s' := by
  unfold l_law_any
  have hpos : 0 < xs.length := List.length_pos_iff.mpr h0
  simp [hd.at.len]
  refine (draw_spec A (by omega) h).imp fun v s' ⟨r, e, h1, h2, h3, h4⟩ => ?_
  subst e
  rw [(hd.ext h4.ext).at.ix]
  have hk : r.toNat < xs.length := by omega
  rw [atI_in h1 (List.getElem?_eq_getElem hk)]
  exact ⟨List.getElem_mem hk, h3, h4⟩
theorem hand_spec (A : Str → Addr) {ns : List Int} {v : V} (h : ns.length ≤ 63) : RW (l_law_hand A ns [.con v] []) fun d s' => d = .loc 2 ∧ HS s' ∧ s'.length = 3 := by
  unfold l_law_hand
  simp [mI_scr]
  refine lc_ints (f := fun x => .int (if x < 0 then -x else x)) (b := fun _ => true) (by simp) (small24 (by omega)) (fun x hx => ?_) ?_
  · simp [wipeD]
  · simp
    refine ⟨small24 (by decide), ns.map (fun x => if x < 0 then -x else x), 0, 0, _, 0, ?_, rfl, Int.le_refl _⟩
    have e : List.filter (fun _ => true) ns = ns := List.filter_eq_self.mpr fun _ _ => rfl
    simp [e, Function.comp_def]
end DL
end
/-! ### P4 -/
section
set_option linter.all false
set_option maxRecDepth 100000
/-! P4: drawn sums. -/
namespace DL
open PySem PySem.Spec L2
open PyProof.Rows hiding St
abbrev rowD (ns : List Int) : D := .tup (ns.map .int)
structure IsRow (p : Int) (w : Nat) (ns : List Int) : Prop where
  len : ns.length = w
  bd : ∀ x ∈ ns, 0 ≤ x ∧ x < p
def IsSm (p : Int) (w : Nat) (ns : List Int) : Prop := IsRow p w ns ∧ ∃ x ∈ ns, x ≠ 0
theorem gMul_tup {s : Sto} {a : D} {k : Int} (hk : 2 ≤ k ∧ k ≤ 1000) : gMul (.tup [a]) (.int k) s = some (.tup (List.replicate k.toNat a), s) := by
  have hb : [a] ≠ [] ∧ 2 ≤ k ∧ k ≤ 1000 ∧ [a].length ≤ 1000 := ⟨by simp, hk.1, hk.2, by simp⟩
  simp only [gMul]
  rw [if_pos hb]
  have : (List.replicate k.toNat [a]).flatten = List.replicate k.toNat a := by
    generalize k.toNat = m
    induction m with
    | zero => rfl
    | succ m ih => simp [List.replicate_succ, ih]
  rw [this]
theorem IsRow.any {p : Int} {w : Nat} {ns : List Int} (h : IsRow p w ns) : (ns.map fun x => !decide (x = 0)).any id = true → IsSm p w ns := fun e => by
  simp at e
  obtain ⟨x, hx, e⟩ := e
  exact ⟨h, x, hx, e⟩
end DL
end
/-! ### P5 -/
section
set_option linter.all false
set_option maxRecDepth 100000
/-! P5: mixed sums, lists of sums. -/
namespace DL
open PySem PySem.Spec L2
open PyProof.Rows hiding St
theorem IsRow.small {p : Int} {w : Nat} {ns : List Int} (h : IsRow p w ns) (hp : p < 1000) : ∀ x ∈ ns, -(2 ^ 64) < x ∧ x < 2 ^ 64 := fun x hx => by
  have := h.bd x hx
  omega
theorem mem_zw {α β γ : Type} {f : α → β → γ} : ∀ {xs : List α} {ys : List β} {z : γ}, z ∈ List.zipWith f xs ys → ∃ a b, a ∈ xs ∧ b ∈ ys ∧ z = f a b
  | [], _, _, h => by simp at h
  | _ :: _, [], _, h => by simp at h
  | x :: xs, y :: ys, z, h => by
    simp only [List.zipWith_cons_cons, List.mem_cons] at h
    rcases h with rfl | h
    · exact ⟨x, y, List.mem_cons_self, List.mem_cons_self, rfl⟩
    · obtain ⟨a, b, ha, hb, e⟩ := mem_zw h
      exact ⟨a, b, List.mem_cons_of_mem _ ha, List.mem_cons_of_mem _ hb, e⟩
theorem append_lst {s : Sto} {n : Nat} {xs : List D} {y : D} (h : s[n]? = some (.lst xs)) (hl : xs.length < sizeLine) : gAppend (.loc n) [y] s = some (.non, s.set n (.lst (xs ++ [y]))) := by
  simp only [gAppend, h]
  rw [if_pos hl]
end DL
end
/-! ### LA -/
section
set_option linter.all false
/-! LA: sums of rows modulo a prime; no program. -/
namespace LA
abbrev Vec := Nat → Int
/-- 0 below w, modulo p -/
def Z (p : Int) (w : Nat) (v : Vec) : Prop := ∀ j, j < w → p ∣ v j
def Sp (p : Int) (w : Nat) : List Vec → Vec → Prop
  | [], v => Z p w v
  | L :: Ls, v => ∃ r : Int, Sp p w Ls (fun j => v j - r * L j)
section
variable {p : Int} {w : Nat}
theorem dvd2 {a b x : Int} (u v : Int) (h1 : p ∣ a) (h2 : p ∣ b) (e : x = a * u + b * v) : p ∣ x := by
  obtain ⟨k1, e1⟩ := h1
  obtain ⟨k2, e2⟩ := h2
  exact ⟨k1 * u + k2 * v, by grind⟩
theorem dvd1 {a x : Int} (u : Int) (h1 : p ∣ a) (e : x = a * u) : p ∣ x := by
  obtain ⟨k1, e1⟩ := h1
  exact ⟨k1 * u, by grind⟩
theorem dvd3 {a b c x : Int} (u v t : Int) (h1 : p ∣ a) (h2 : p ∣ b) (h3 : p ∣ c) (e : x = a * u + b * v + c * t) : p ∣ x := by
  obtain ⟨k1, e1⟩ := h1
  obtain ⟨k2, e2⟩ := h2
  obtain ⟨k3, e3⟩ := h3
  exact ⟨k1 * u + k2 * v + k3 * t, by grind⟩
theorem Sp.congr : ∀ {Ls : List Vec} {u v : Vec}, Sp p w Ls u → (∀ j, j < w → p ∣ u j - v j) → Sp p w Ls v
  | [], u, v, h, e => fun j hj => dvd2 1 (-1) (h j hj) (e j hj) (by grind)
  | L :: Ls, u, v, ⟨r, h⟩, e => ⟨r, Sp.congr h fun j hj => dvd1 1 (e j hj) (by grind)⟩
theorem Sp.eq {Ls : List Vec} {u v : Vec} (h : Sp p w Ls u) (e : ∀ j, j < w → u j = v j) : Sp p w Ls v := h.congr fun j hj => ⟨0, by rw [e j hj]; grind⟩
theorem Sp.lin : ∀ {Ls : List Vec} {u v : Vec} (a b : Int), Sp p w Ls u → Sp p w Ls v → Sp p w Ls (fun j => a * u j + b * v j)
  | [], u, v, a, b, h1, h2 => fun j hj => dvd2 a b (h1 j hj) (h2 j hj) (by grind)
  | L :: Ls, u, v, a, b, ⟨r1, h1⟩, ⟨r2, h2⟩ => ⟨a * r1 + b * r2, (Sp.lin a b h1 h2).eq fun j _ => by grind⟩
theorem Sp.zero : ∀ {Ls : List Vec} {v : Vec}, Z p w v → Sp p w Ls v
  | [], v, h => h
  | L :: Ls, v, h => ⟨0, Sp.zero fun j hj => dvd1 1 (h j hj) (by grind)⟩
theorem Sp.smul {Ls : List Vec} {u : Vec} (a : Int) (h : Sp p w Ls u) : Sp p w Ls (fun j => a * u j) :=
  (Sp.lin a 0 h h).eq fun j _ => by grind
theorem Sp.add {Ls : List Vec} {u v : Vec} (h1 : Sp p w Ls u) (h2 : Sp p w Ls v) : Sp p w Ls (fun j => u j + v j) :=
  (Sp.lin 1 1 h1 h2).eq fun j _ => by grind
theorem Sp.sub {Ls : List Vec} {u v : Vec} (h1 : Sp p w Ls u) (h2 : Sp p w Ls v) : Sp p w Ls (fun j => u j - v j) :=
  (Sp.lin 1 (-1) h1 h2).eq fun j _ => by grind
theorem Sp.cons {Ls : List Vec} {L v : Vec} (h : Sp p w Ls v) : Sp p w (L :: Ls) v := ⟨0, h.eq fun j _ => by grind⟩
theorem Sp.mem : ∀ {Ls : List Vec} {L : Vec}, L ∈ Ls → Sp p w Ls L
  | [], L, h => by cases h
  | M :: Ls, L, h => by
    rcases List.mem_cons.mp h with rfl | h
    · exact ⟨1, Sp.zero fun j hj => ⟨0, by grind⟩⟩
    · exact (Sp.mem h).cons
theorem Sp.trans : ∀ {Ls Ms : List Vec} {v : Vec}, (∀ L ∈ Ls, Sp p w Ms L) → Sp p w Ls v → Sp p w Ms v
  | [], Ms, v, _, h => Sp.zero h
  | L :: Ls, Ms, v, hm, ⟨r, h⟩ => by
    have h1 := Sp.trans (fun L hL => hm L (List.mem_cons_of_mem _ hL)) h
    exact (h1.add ((hm L List.mem_cons_self).smul r)).eq fun j _ => by grind
theorem Sp.mono {Ls Ms : List Vec} {v : Vec} (h : Sp p w Ls v) (hm : ∀ L ∈ Ls, L ∈ Ms) : Sp p w Ms v := Sp.trans (fun L hL => Sp.mem (hm L hL)) h
/-- where all rows are 0, all that they make is -/
theorem Sp.at : ∀ {Ls : List Vec} {v : Vec} {q : Nat}, q < w → (∀ L ∈ Ls, p ∣ L q) → Sp p w Ls v → p ∣ v q
  | [], v, q, hq, _, h => h q hq
  | L :: Ls, v, q, hq, hm, ⟨r, h⟩ => by
    have h1 := Sp.at hq (fun L hL => hm L (List.mem_cons_of_mem _ hL)) h
    exact dvd2 1 r h1 (hm L List.mem_cons_self) (by grind)
/-! ### rows with places -/
/-- 1 at its place, where all rows behind it are 0 -/
def Tri (p : Int) (w : Nat) : List (Nat × Vec) → Prop
  | [] => True
  | (q, L) :: R => q < w ∧ p ∣ L q - 1 ∧ (∀ x ∈ R, p ∣ x.2 q) ∧ Tri p w R
abbrev vs (R : List (Nat × Vec)) : List Vec := R.map (·.2)
theorem tri_zero : ∀ {R : List (Nat × Vec)} {u : Vec}, Tri p w R → Sp p w (vs R) u → (∀ x ∈ R, p ∣ u x.1) → Z p w u
  | [], u, _, h, _ => h
  | (q, L) :: R, u, ⟨hq, h1, h2, ht⟩, ⟨r, h⟩, hz => by
    have hu := hz (q, L) List.mem_cons_self
    dsimp only at hu
    have hq' : p ∣ u q - r * L q := Sp.at hq (fun M hM => by obtain ⟨x, hx, rfl⟩ := List.mem_map.mp hM; exact h2 x hx) h
    have hr : p ∣ r := dvd3 1 (-1) (-r) hu hq' h1 (by grind)
    have hz2 := tri_zero ht h fun x hx => dvd2 1 (-(L x.1)) (hz x (List.mem_cons_of_mem _ hx)) hr (by grind)
    exact fun j hj => dvd2 1 (L j) (hz2 j hj) hr (by grind)
/-- what is left -/
def fall : List (Nat × Vec) → Vec → Vec
  | [], v => v
  | (q, L) :: R, v => fall R (fun j => v j - v q * L j)
theorem fall_keep : ∀ {R : List (Nat × Vec)} {v : Vec} {q : Nat}, (∀ x ∈ R, p ∣ x.2 q) → p ∣ v q → p ∣ fall R v q
  | [], v, q, _, h => h
  | (q', L) :: R, v, q, hm, h => by
    have h1 := hm (q', L) List.mem_cons_self
    show p ∣ fall R (fun j => v j - v q' * L j) q
    exact fall_keep (fun x hx => hm x (List.mem_cons_of_mem _ hx)) (dvd2 1 (-(v q')) h h1 (by grind))
theorem fall_spec : ∀ {R : List (Nat × Vec)} {v : Vec}, Tri p w R → (∀ x ∈ R, p ∣ fall R v x.1) ∧ Sp p w (vs R) (fun j => v j - fall R v j)
  | [], v, _ => ⟨by simp, fun j _ => ⟨0, by simp [fall]⟩⟩
  | (q, L) :: R, v, ⟨hq, h1, h2, ht⟩ => by
    obtain ⟨a, b⟩ := fall_spec (R := R) (v := fun j => v j - v q * L j) ht
    refine ⟨fun x hx => ?_, v q, b.eq fun j _ => by simp only [fall]; grind⟩
    rcases List.mem_cons.mp hx with rfl | hx
    · show p ∣ fall R (fun j => v j - v q * L j) q
      exact fall_keep h2 (dvd1 (-(v q)) h1 (by grind))
    · exact a x hx
/-- 0 is left of just what the rows make -/
theorem fall_iff {R : List (Nat × Vec)} {v : Vec} (h : Tri p w R) : Z p w (fall R v) ↔ Sp p w (vs R) v := by
  obtain ⟨a, b⟩ := fall_spec (v := v) h
  constructor
  · exact fun z => b.congr fun j hj => dvd1 (-1) (z j hj) (by grind)
  · exact fun s => tri_zero h ((s.sub b).eq fun j _ => by grind) a
/-! ### sums -/
def sm : Nat → (Nat → Int) → Int
  | 0, _ => 0
  | n + 1, f => sm n f + f n
theorem sm_lin (a b : Int) (f g : Nat → Int) : ∀ n, sm n (fun i => a * f i + b * g i) = a * sm n f + b * sm n g
  | 0 => by simp [sm]
  | n + 1 => by simp only [sm, sm_lin a b f g n]; grind
theorem sm_congr {f g : Nat → Int} : ∀ {n : Nat}, (∀ i, i < n → f i = g i) → sm n f = sm n g
  | 0, _ => rfl
  | n + 1, h => by simp only [sm]; rw [sm_congr fun i hi => h i (by omega), h n (by omega)]
theorem sm_dvd {f : Nat → Int} : ∀ {n : Nat}, (∀ i, i < n → p ∣ f i) → p ∣ sm n f
  | 0, _ => ⟨0, by simp [sm]⟩
  | n + 1, h => by
    have h1 := sm_dvd (n := n) fun i hi => h i (by omega)
    show p ∣ sm n f + f n
    exact dvd2 1 1 h1 (h n (by omega)) (by grind)
theorem sm_zero {f : Nat → Int} {n : Nat} (h : ∀ i, i < n → f i = 0) : sm n f = 0 := by
  induction n with
  | zero => rfl
  | succ n ih => simp only [sm]; rw [ih fun i hi => h i (by omega), h n (by omega)]; rfl
/-- the sums ahead of the n-th -/
abbrev upto (S : Nat → Vec) (n : Nat) : List Vec := (List.range n).map S
theorem upto_succ (S : Nat → Vec) (n : Nat) : upto S (n + 1) = upto S n ++ [S n] := by simp [upto, List.range_succ]
theorem Sp.snoc {Ls : List Vec} {L v : Vec} : Sp p w (Ls ++ [L]) v ↔ ∃ r, Sp p w Ls (fun j => v j - r * L j) := by
  constructor
  · intro h
    have : ∀ {Ls : List Vec} {v : Vec}, Sp p w (Ls ++ [L]) v → ∃ r, Sp p w Ls (fun j => v j - r * L j) := by
      intro Ls
      induction Ls with
      | nil => intro v h; exact h
      | cons M Ls ih =>
        intro v ⟨r, h⟩
        obtain ⟨r2, h2⟩ := ih h
        exact ⟨r2, r, h2.eq fun j _ => by grind⟩
    exact this h
  · rintro ⟨r, h⟩
    have h1 : Sp p w (Ls ++ [L]) (fun j => v j - r * L j) := h.mono fun M hM => List.mem_append_left _ hM
    exact (h1.add ((Sp.mem (p := p) (w := w) (Ls := Ls ++ [L]) (L := L) (by simp)).smul r)).eq fun j _ => by grind
theorem sp_sum (S : Nat → Vec) (c : Nat → Int) : ∀ n, Sp p w (upto S n) (fun j => sm n fun i => c i * S i j)
  | 0 => fun j _ => ⟨0, by simp [sm]⟩
  | n + 1 => by
    rw [upto_succ]
    exact Sp.snoc.mpr ⟨c n, (sp_sum S c n).eq fun j _ => by simp only [sm]; grind⟩
/-- made of the sums ahead: by which values -/
theorem sp_iff {S : Nat → Vec} : ∀ {n : Nat} {v : Vec}, Sp p w (upto S n) v ↔ ∃ c : Nat → Int, ∀ j, j < w → p ∣ v j - sm n fun i => c i * S i j := by
  intro n v
  constructor
  · have : ∀ (n : Nat) (v : Vec), Sp p w (upto S n) v → ∃ c : Nat → Int, ∀ j, j < w → p ∣ v j - sm n fun i => c i * S i j := by
      intro n
      induction n with
      | zero => intro v h; exact ⟨fun _ => 0, fun j hj => dvd1 1 (h j hj) (by simp [sm])⟩
      | succ n ih =>
        intro v h
        rw [upto_succ] at h
        obtain ⟨r, h⟩ := Sp.snoc.mp h
        obtain ⟨c, hc⟩ := ih _ h
        refine ⟨fun i => if i = n then r else c i, fun j hj => dvd1 1 (hc j hj) ?_⟩
        simp only [sm]
        rw [sm_congr (f := fun i => (if i = n then r else c i) * S i j) (g := fun i => c i * S i j) fun i hi => by rw [if_neg (by omega)]]
        simp only [if_true]
        grind
    exact this n v
  · rintro ⟨c, hc⟩
    exact (sp_sum S c n).congr fun j hj => dvd1 (-1) (hc j hj) (by grind)
/-! ### primes -/
structure Pr (p : Int) : Prop where
  two : 2 ≤ p
  no : ∀ q, 2 ≤ q → q < p → p % q ≠ 0
theorem Pr.inv0 {p : Int} (h : Pr p) : ∀ (n : Nat) (a : Int), a.toNat = n → 0 < a → a < p → ∃ b, p ∣ a * b - 1 := by
  intro n
  induction n using Nat.strongRecOn with
  | _ n ih =>
    intro a hn h0 hp
    by_cases h1 : a = 1
    · exact ⟨1, 0, by rw [h1]; omega⟩
    · have hr := h.no a (by omega) hp
      have hr0 := Int.emod_nonneg p (show a ≠ 0 by omega)
      have hr1 := Int.emod_lt_of_pos p h0
      obtain ⟨b, hb⟩ := ih (p % a).toNat (by omega) (p % a) rfl (by omega) (by omega)
      have e := Int.emod_add_mul_ediv p a
      refine ⟨-(p / a) * b, ?_⟩
      obtain ⟨k, hk⟩ := hb
      exact ⟨k - b, by grind⟩
theorem Pr.inv {p : Int} (h : Pr p) {a : Int} (ha : ¬ p ∣ a) : ∃ b, p ∣ a * b - 1 := by
  have hp : 0 < p := by have := h.two; omega
  have h0 := Int.emod_nonneg a (show p ≠ 0 by omega)
  have h1 := Int.emod_lt_of_pos a hp
  have h2 : a % p ≠ 0 := fun e => ha (Int.dvd_of_emod_eq_zero e)
  obtain ⟨b, k, hb⟩ := h.inv0 _ (a % p) rfl (by omega) h1
  have e := Int.emod_add_mul_ediv a p
  exact ⟨b, k + a / p * b, by grind⟩
/-! ### alone -/
/-- the i-th sum is not made of those ahead -/
def Al (p : Int) (w : Nat) (S : Nat → Vec) (i : Nat) : Prop := ¬ Sp p w (upto S i) (S i)
/-- values at sums that are alone: there is just one way -/
theorem uniq {p : Int} {w : Nat} (hp : Pr p) {S : Nat → Vec} : ∀ {n : Nat} {c : Nat → Int}, (∀ i, i < n → Al p w S i ∨ p ∣ c i) → (∀ j, j < w → p ∣ sm n fun i => c i * S i j) → ∀ i, i < n → p ∣ c i
  | 0, _, _, _, i, hi => by omega
  | n + 1, c, hI, hz, i, hi => by
    by_cases hd : p ∣ c n
    · by_cases hin : i = n
      · rw [hin]; exact hd
      · refine uniq hp (n := n) (fun i hi => hI i (by omega)) (fun j hj => ?_) i (by omega)
        exact dvd2 1 (-(S n j)) (hz j hj) hd (by simp only [sm]; grind)
    · refine absurd ?_ ((hI n (by omega)).resolve_right hd)
      obtain ⟨b, hb⟩ := hp.inv hd
      refine sp_iff.mpr ⟨fun i => -b * c i, fun j hj => ?_⟩
      have e : sm n (fun i => -b * c i * S i j) = -b * sm n (fun i => c i * S i j) := by
        have := sm_lin (-b) 0 (fun i => c i * S i j) (fun _ => 0) n
        rw [sm_congr (g := fun i => -b * (c i * S i j) + 0 * 0) fun i _ => by grind, this]
        grind
      rw [e]
      have hzj := hz j hj
      simp only [sm] at hzj
      exact dvd2 b (-(S n j)) hzj hb (by grind)
end
end LA
end
/-! ### P6 -/
section
set_option linter.all false
set_option maxRecDepth 100000
/-! P6: the package's small functions over right things. -/
namespace DL
open PySem PySem.Spec L2
open PyProof.Rows hiding St
open LA
/-- what stood stands -/
def Pre (s s' : Sto) : Prop := s.length ≤ s'.length ∧ ∀ k, k < s.length → s'[k]? = s[k]?
theorem Pre.refl {s : Sto} : Pre s s := ⟨Nat.le_refl _, fun _ _ => rfl⟩
theorem Pre.trans {s s1 s2 : Sto} (a : Pre s s1) (b : Pre s1 s2) : Pre s s2 := ⟨Nat.le_trans a.1 b.1, fun k hk => (b.2 k (Nat.lt_of_lt_of_le hk a.1)).trans (a.2 k hk)⟩
theorem Pre.push {s s1 q : Sto} (a : Pre s s1) : Pre s (s1 ++ q) := ⟨by simp; have := a.1; omega, fun k hk => by rw [List.getElem?_append_left (Nat.lt_of_lt_of_le hk a.1)]; exact a.2 k hk⟩
theorem Pre.set {s s1 : Sto} (a : Pre s s1) {n : Nat} {ob : Ob} (hn : s.length ≤ n) : Pre s (s1.set n ob) := ⟨by simp; exact a.1, fun k hk => by rw [List.getElem?_set_ne (by omega)]; exact a.2 k hk⟩
theorem Pre.get {s s1 : Sto} (a : Pre s s1) {n : Nat} {ob : Ob} (h : s[n]? = some ob) : s1[n]? = some ob := by rw [a.2 n (len_of h)]; exact h
theorem Pre.ext {s s1 : Sto} (a : Pre s s1) : Ext s s1 := ⟨a.1, fun k _ hk => a.2 k hk⟩
theorem Pre.hs {s s1 : Sto} (a : Pre s s1) (h : HS s) : HS s1 := by
  obtain ⟨cells, i, x, y, c, h1, h2, hi⟩ := h
  exact ⟨cells, i, x, y, c, a.get h1, a.get h2, hi⟩
theorem SeqAt.pre {s s1 : Sto} {d : D} {xs : List D} (h : SeqAt s d xs) (a : Pre s s1) : SeqAt s1 d xs := by
  rcases h with rfl | ⟨n, rfl, h⟩
  · exact .tup
  · exact .loc (a.get h)
/-- whether a thing is a whole number from lo to hi -/
def inR (lo hi : Int) : D → Bool
  | .int x => decide (lo ≤ x) && decide (x ≤ hi)
  | _ => false
theorem within_int (A : Str → Addr) {x lo hi : Int} {s : Sto} : l_is_within A [.int x, .int lo, .int hi] s = .ok (.bl (decide (lo ≤ x) && decide (x ≤ hi))) s := by
  apply RW.eq
  unfold l_is_within l_is_integer
  simp
  by_cases h1 : lo ≤ x
  · simp [h1]
  · simp [h1]; omega
theorem within_spec (A : Str → Addr) {d : D} {lo hi : Int} {s : Sto} {t : String} (h : tyD s d = some t) : l_is_within A [d, .int lo, .int hi] s = .ok (.bl (inR lo hi d)) s := by
  cases d with
  | int x => exact within_int A
  | non => apply RW.eq; unfold l_is_within l_is_integer; simp [inR]
  | bl b => apply RW.eq; unfold l_is_within l_is_integer; simp [inR]
  | str x => apply RW.eq; unfold l_is_within l_is_integer; simp [inR]
  | tup xs => apply RW.eq; unfold l_is_within l_is_integer; simp [inR]
  | con v => cases h
  | loc n =>
    apply RW.eq
    unfold l_is_within l_is_integer
    simp only [tyD] at h
    split at h
    · rename_i xs e
      simp [gIsi, tyD, e, inR]
    · rename_i xs e
      simp [gIsi, tyD, e, inR]
    · cases h
end DL
end
/-! ### P7 -/
section
set_option linter.all false
set_option maxRecDepth 100000
/-! P7: .. sums judged, rows less others, places, inverses. -/
namespace DL
open PySem PySem.Spec L2
open PyProof.Rows hiding St
open LA
/-- a row less another one so many times -/
def lessT (p : Int) (xs : List Int) (t : Int) (ys : List Int) : List Int := List.zipWith (fun a b => (a - t * b) % p) xs ys
theorem IsRow.less {p t : Int} {w : Nat} {xs ys : List Int} (hp : 0 < p) (h1 : IsRow p w xs) (h2 : IsRow p w ys) : IsRow p w (lessT p xs t ys) := by
  refine ⟨by simp [lessT, h1.len, h2.len], fun x hx => ?_⟩
  obtain ⟨a, b, _, _, rfl⟩ := mem_zw hx
  exact ⟨Int.emod_nonneg _ (by omega), Int.emod_lt_of_pos _ hp⟩
end DL
end
/-! ### P8 -/
section
set_option linter.all false
set_option maxRecDepth 100000
/-! P8: dicts of whole numbers; the inner loop of Steps. -/
namespace DL
open PySem PySem.Spec L2
open PyProof.Rows hiding St
open LA
abbrev mdD (M : List (Int × Int)) : List (Key × D) := M.map fun kx => (.inl kx.1, .int kx.2)
abbrev keysM (M : List (Int × Int)) : List Int := M.map (·.1)
/-- the value at a name, 0 where there is none -/
def co : List (Int × Int) → Int → Int
  | [], _ => 0
  | (k, x) :: M, i => if k = i then x else co M i
theorem co_none : ∀ {M : List (Int × Int)} {i : Int}, i ∉ keysM M → co M i = 0
  | [], _, _ => rfl
  | (k, x) :: M, i, h => by
    simp at h
    have h1 : ¬ k = i := fun e => h.1 e.symm
    simp only [co, if_neg h1]
    exact co_none (by simpa using h.2)
end DL
end
/-! ### P9 -/
section
set_option linter.all false
set_option maxRecDepth 100000
/-! P9: Steps.fallen. -/
namespace DL
open PySem PySem.Spec L2
open PyProof.Rows hiding St
open LA
/-- what Steps keeps of a place: the row, by which values it is made; where both stand -/
structure En where
  q : Nat
  l : Nat
  m : Nat
  L : List Int
  M : List (Int × Int)
abbrev kvD (E : List En) : List (Key × D) := E.map fun e => (.inl (e.q : Int), .tup [.loc e.l, .loc e.m])
def EnAt (s : Sto) (e : En) : Prop := s[e.l]? = some (.lst (e.L.map .int)) ∧ s[e.m]? = some (.dct (mdD e.M))
structure StAt (A : Str → Addr) (s : Sto) (k : Nat) (p : Int) (E : List En) : Prop where
  ob : ∃ dl, s[k]? = some (.ins (A "Steps") [("kept_prime", .int p), ("kept_rows", .loc dl)]) ∧ s[dl]? = some (.dct (kvD E))
  en : ∀ e ∈ E, EnAt s e
theorem EnAt.pre {s s1 : Sto} {e : En} (h : EnAt s e) (a : Pre s s1) : EnAt s1 e := ⟨a.get h.1, a.get h.2⟩
theorem StAt.pre {A : Str → Addr} {s s1 : Sto} {k : Nat} {p : Int} {E : List En} (h : StAt A s k p E) (a : Pre s s1) : StAt A s1 k p E := by
  obtain ⟨⟨dl, h1, h2⟩, h3⟩ := h
  exact ⟨⟨dl, a.get h1, a.get h2⟩, fun e he => (h3 e he).pre a⟩
/-- the rows kept: each 1 at its place, where all others are 0 -/
structure RR (p : Int) (w : Nat) (E : List En) : Prop where
  few : E.length < 64
  nd : (E.map (·.q)).Nodup
  row : ∀ e ∈ E, IsRow p w e.L
  lt : ∀ e ∈ E, e.q < w
  one : ∀ e ∈ E, p ∣ e.L.getD e.q 0 - 1
  off : ∀ e ∈ E, ∀ e' ∈ E, e.q ≠ e'.q → p ∣ e'.L.getD e.q 0
  keys : ∀ e ∈ E, (keysM e.M).Nodup
  short : ∀ e ∈ E, e.M.length ≤ 100
  low : ∀ e ∈ E, ∀ j, j < e.q → p ∣ e.L.getD j 0
def sumE : List En → (En → Int) → Int
  | [], _ => 0
  | e :: E, f => f e + sumE E f
/-- the result of fallen: left of the row, and how it is made -/
def Fallen (p : Int) (w : Nat) (E : List En) (xs ys : List Int) (M M' : List (Int × Int)) : Prop :=
  IsRow p w ys ∧ (∀ e ∈ E, p ∣ ys.getD e.q 0) ∧ (keysM M').Nodup ∧ M'.length ≤ M.length + 6400 ∧ (∀ i ∈ keysM M', i ∈ keysM M ∨ ∃ e ∈ E, i ∈ keysM e.M) ∧
  ∃ t : Nat → Int, (∀ j, j < w → p ∣ ys.getD j 0 - (xs.getD j 0 - sumE E fun e => t e.q * e.L.getD j 0)) ∧ ∀ i, p ∣ co M' i - (co M i - sumE E fun e => t e.q * co e.M i)
theorem getD_zw {f : Int → Int → Int} {xs ys : List Int} {j : Nat} (h1 : j < xs.length) (h2 : j < ys.length) : (List.zipWith f xs ys).getD j 0 = f (xs.getD j 0) (ys.getD j 0) := by
  simp [List.getD_eq_getElem?_getD, List.getElem?_zipWith, List.getElem?_eq_getElem h1, List.getElem?_eq_getElem h2]
theorem less_at {p t : Int} {w : Nat} {xs ys : List Int} (h1 : IsRow p w xs) (h2 : IsRow p w ys) {j : Nat} (hj : j < w) : p ∣ (lessT p xs t ys).getD j 0 - (xs.getD j 0 - t * ys.getD j 0) := by
  unfold lessT
  rw [getD_zw (by rw [h1.len]; exact hj) (by rw [h2.len]; exact hj)]
  have := Int.emod_add_mul_ediv (xs.getD j 0 - t * ys.getD j 0) p
  exact ⟨-((xs.getD j 0 - t * ys.getD j 0) / p), by grind⟩
theorem IsRow.at {p : Int} {w : Nat} {xs : List Int} (h : IsRow p w xs) {j : Nat} (hj : j < w) : 0 ≤ xs.getD j 0 ∧ xs.getD j 0 < p := by
  have hl : j < xs.length := by rw [h.len]; exact hj
  have : xs.getD j 0 = xs[j] := by simp [List.getD_eq_getElem?_getD, List.getElem?_eq_getElem hl]
  rw [this]
  exact h.bd _ (List.getElem_mem hl)
end DL
end
/-! ### P10 -/
section
set_option linter.all false
set_option maxRecDepth 100000
/-! P10: Steps.cleared, Steps.take. -/
namespace DL
open PySem PySem.Spec L2
open PyProof.Rows hiding St
open LA
end DL
end
/-! ### P11 -/
section
set_option linter.all false
set_option maxRecDepth 100000
/-! P11: what Steps keeps, by the sums taken: no program. -/
namespace DL
open PySem PySem.Spec L2
open PyProof.Rows hiding St
open LA
abbrev vecL (xs : List Int) : Vec := fun j => xs.getD j 0
abbrev vecE (e : En) : Vec := vecL e.L
structure SI (p : Int) (w : Nat) (S : Nat → Vec) (n : Nat) (E : List En) : Prop where
  rr : RR p w E
  made : ∀ e ∈ E, ∀ j, j < w → p ∣ e.L.getD j 0 - sm n fun i => co e.M (i : Int) * S i j
  supp : ∀ e ∈ E, ∀ x ∈ keysM e.M, ∃ i, i < n ∧ x = (i : Int) ∧ Al p w S i
  all : ∀ i, i < n → Sp p w (E.map vecE) (S i)
theorem pigeon : ∀ (n : Nat) (l : List Nat), l.Nodup → (∀ x ∈ l, x < n) → l.length ≤ n := by
  intro n
  induction n with
  | zero =>
    intro l _ h
    cases l with
    | nil => simp
    | cons x l => exact absurd (h x List.mem_cons_self) (by omega)
  | succ n ih =>
    intro l hn h
    have h1 := ih (l.filter fun x => decide (x ≠ n)) (hn.sublist List.filter_sublist) fun x hx => by
      rw [List.mem_filter] at hx
      have := h x hx.1
      have h2 : x ≠ n := by simpa using hx.2
      omega
    have h2 : l.length ≤ (l.filter fun x => decide (x ≠ n)).length + 1 := by
      clear h1 ih h
      induction l with
      | nil => simp
      | cons x l ih =>
        simp only [List.nodup_cons] at hn
        by_cases e : x = n
        · subst e
          have : l.filter (fun y => decide (y ≠ x)) = l := List.filter_eq_self.mpr fun y hy => by
            simp
            intro q
            subst q
            exact hn.1 hy
          have e2 : (x :: l).filter (fun y => decide (y ≠ x)) = l := by
            rw [List.filter_cons_of_neg (by simp)]
            exact this
          rw [e2]
          simp
        · have := ih hn.2
          simp [e] at this ⊢
          omega
    omega
theorem pigeonI {n : Nat} {l : List Int} (hn : l.Nodup) (h : ∀ x ∈ l, ∃ i : Nat, i < n ∧ x = (i : Int)) : l.length ≤ n := by
  have := pigeon n (l.map Int.toNat) (map_nodup hn fun x hx y hy e => by
    obtain ⟨i, _, rfl⟩ := h x hx
    obtain ⟨j, _, rfl⟩ := h y hy
    omega) fun x hx => by
    obtain ⟨y, hy, rfl⟩ := List.mem_map.mp hx
    obtain ⟨i, hi, rfl⟩ := h y hy
    omega
  simpa using this
abbrev rowsE (E : List En) : List (Nat × Vec) := E.map fun e => (e.q, vecE e)
theorem vs_rows (E : List En) : vs (rowsE E) = E.map vecE := by simp [vs]
theorem RR.tri0 {p : Int} {w : Nat} : ∀ {E : List En}, (E.map (·.q)).Nodup → (∀ e ∈ E, e.q < w) → (∀ e ∈ E, p ∣ e.L.getD e.q 0 - 1) → (∀ e ∈ E, ∀ e' ∈ E, e.q ≠ e'.q → p ∣ e'.L.getD e.q 0) → Tri p w (rowsE E)
  | [], _, _, _, _ => trivial
  | e :: E, hn, hl, h1, h2 => by
    simp only [List.map_cons, List.nodup_cons] at hn
    refine ⟨hl e List.mem_cons_self, h1 e List.mem_cons_self, fun x hx => ?_, RR.tri0 hn.2 (fun e he => hl e (List.mem_cons_of_mem _ he)) (fun e he => h1 e (List.mem_cons_of_mem _ he)) fun e he e' he' => h2 e (List.mem_cons_of_mem _ he) e' (List.mem_cons_of_mem _ he')⟩
    obtain ⟨e', he', rfl⟩ := List.mem_map.mp hx
    exact h2 e List.mem_cons_self e' (List.mem_cons_of_mem _ he') fun q => hn.1 (by rw [q]; exact List.mem_map.mpr ⟨e', he', rfl⟩)
theorem RR.tri {p : Int} {w : Nat} {E : List En} (h : RR p w E) : Tri p w (rowsE E) := RR.tri0 h.nd h.lt h.one h.off
theorem sp_sumE {p : Int} {w : Nat} {t : En → Int} : ∀ {E : List En}, Sp p w (E.map vecE) (fun j => sumE E fun e => t e * e.L.getD j 0)
  | [] => fun j _ => ⟨0, by simp [sumE]⟩
  | e :: E => ⟨t e, (sp_sumE (t := t) (E := E)).eq fun j _ => by simp only [sumE, vecE, vecL]; grind⟩
theorem sm_sumE {n : Nat} {t : En → Int} {f : En → Nat → Int} {g : Nat → Int} : ∀ {E : List En}, sm n (fun i => (sumE E fun e => t e * f e i) * g i) = sumE E fun e => t e * sm n fun i => f e i * g i
  | [] => by simp only [sumE]; exact sm_zero fun i _ => by simp
  | e :: E => by
    simp only [sumE]
    rw [← sm_sumE (t := t) (E := E)]
    have := sm_lin (t e) 1 (fun i => f e i * g i) (fun i => (sumE E fun e => t e * f e i) * g i) n
    rw [sm_congr (g := fun i => t e * (f e i * g i) + 1 * ((sumE E fun e => t e * f e i) * g i)) fun i _ => by grind, this]
    grind
theorem sm_cong {p : Int} {n : Nat} {f g s : Nat → Int} (h : ∀ i, i < n → p ∣ f i - g i) : p ∣ sm n (fun i => f i * s i) - sm n fun i => g i * s i := by
  have h1 : p ∣ sm n fun i => (f i - g i) * s i := sm_dvd fun i hi => dvd1 (s i) (h i hi) rfl
  have h2 := sm_lin 1 (-1) (fun i => f i * s i) (fun i => g i * s i) n
  rw [sm_congr (g := fun i => (f i - g i) * s i) fun i _ => by grind] at h2
  rw [h2] at h1
  exact dvd1 1 h1 (by grind)
theorem sumE_cong {p : Int} {E : List En} {f g : En → Int} (h : ∀ e ∈ E, p ∣ f e - g e) : p ∣ sumE E f - sumE E g := by
  induction E with
  | nil => exact ⟨0, by simp [sumE]⟩
  | cons e E ih =>
    simp only [sumE]
    exact dvd2 1 1 (h e List.mem_cons_self) (ih fun x hx => h x (List.mem_cons_of_mem _ hx)) (by grind)
section
variable {p : Int} {w n : Nat} {S : Nat → Vec} {E : List En} {xs ys : List Int} {M M' : List (Int × Int)}
/-- what is kept is made of the sums -/
theorem SI.up (h : SI p w S n E) : ∀ L ∈ E.map vecE, Sp p w (upto S n) L := fun L hL => by
  obtain ⟨e, he, rfl⟩ := List.mem_map.mp hL
  exact sp_iff.mpr ⟨fun i => co e.M (i : Int), h.made e he⟩
theorem SI.down (h : SI p w S n E) {v : Vec} (hv : Sp p w (upto S n) v) : Sp p w (E.map vecE) v := Sp.trans (fun L hL => by
  obtain ⟨i, hi, rfl⟩ := List.mem_map.mp hL
  exact h.all i (by simpa using hi)) hv
/-- 0 is left just of what is made -/
theorem SI.left (h : SI p w S n E) (f : Fallen p w E xs ys M M') : Z p w (vecL ys) ↔ Sp p w (upto S n) (vecL xs) := by
  obtain ⟨hy, hv, _, _, _, t, ht, _⟩ := f
  have hsum : Sp p w (E.map vecE) (fun j => sumE E fun e => t e.q * e.L.getD j 0) := sp_sumE
  constructor
  · intro z
    have : Sp p w (E.map vecE) (vecL xs) := hsum.congr fun j hj => dvd2 1 (-1) (ht j hj) (z j hj) (by simp only [vecL]; grind)
    exact Sp.trans h.up this
  · intro hs
    have h1 := (h.down hs).sub hsum
    have h2 : Sp p w (vs (rowsE E)) (vecL ys) := by
      rw [vs_rows]
      exact h1.congr fun j hj => dvd1 (-1) (ht j hj) (by simp only [vecL]; grind)
    refine tri_zero h.rr.tri h2 fun x hx => ?_
    obtain ⟨e, he, rfl⟩ := List.mem_map.mp hx
    exact hv e he
theorem SI.co0 (h : SI p w S n E) {e : En} (he : e ∈ E) : co e.M (n : Int) = 0 := co_none fun hk => by
  obtain ⟨i, hi, e1, _⟩ := h.supp e he _ hk
  omega
theorem SI.step (h : SI p w S n E) (hn : Sp p w (E.map vecE) (S n)) : SI p w S (n + 1) E := by
  refine ⟨h.rr, fun e he j hj => ?_, fun e he x hx => ?_, fun i hi => ?_⟩
  · simp only [sm]
    rw [h.co0 he]
    exact dvd1 1 (h.made e he j hj) (by grind)
  · obtain ⟨i, hi, a, b⟩ := h.supp e he x hx
    exact ⟨i, by omega, a, b⟩
  · by_cases e : i = n
    · subst e; exact hn
    · exact h.all i (by omega)
end
end DL
end
/-! ### P12 -/
section
set_option linter.all false
set_option maxRecDepth 100000
/-! P12: a sum more that is kept. -/
namespace DL
open PySem PySem.Spec L2
open PyProof.Rows hiding St
open LA
/-- a row cleared at a place -/
structure Clr (p : Int) (q : Nat) (left : List Int) (M2 : List (Int × Int)) (e e' : En) : Prop where
  q_ : e'.q = e.q
  L_ : e'.L = lessT p e.L (e.L.getD q 0) left
  nd : (keysM e'.M).Nodup
  co_ : ∀ i, p ∣ co e'.M i - (co e.M i - e.L.getD q 0 * co M2 i)
  keys : ∀ i ∈ keysM e'.M, i ∈ keysM e.M ∨ i ∈ keysM M2
theorem paired_mem {α β : Type} {R : α → β → Prop} : ∀ {xs : List α} {ys : List β}, Paired R xs ys → (∀ y ∈ ys, ∃ x ∈ xs, R x y) ∧ ∀ x ∈ xs, ∃ y ∈ ys, R x y
  | _, _, .nil => ⟨by simp, by simp⟩
  | x :: xs, y :: ys, .cons h r => by
    obtain ⟨a, b⟩ := paired_mem r
    constructor
    · intro z hz
      rcases List.mem_cons.mp hz with rfl | hz
      · exact ⟨x, List.mem_cons_self, h⟩
      · obtain ⟨u, hu, hr⟩ := a z hz
        exact ⟨u, List.mem_cons_of_mem _ hu, hr⟩
    · intro z hz
      rcases List.mem_cons.mp hz with rfl | hz
      · exact ⟨y, List.mem_cons_self, h⟩
      · obtain ⟨u, hu, hr⟩ := b z hz
        exact ⟨u, List.mem_cons_of_mem _ hu, hr⟩
theorem clr_q {p : Int} {q : Nat} {left : List Int} {M2 : List (Int × Int)} : ∀ {E E' : List En}, Paired (Clr p q left M2) E E' → E'.map (·.q) = E.map (·.q)
  | _, _, .nil => rfl
  | _, _, .cons h r => by simp [h.q_, clr_q r]
theorem dvd_small {p x : Int} (h : p ∣ x) (h0 : 0 ≤ x) (h1 : x < p) : x = 0 := by
  have := Int.emod_eq_of_lt h0 h1
  rw [Int.emod_eq_zero_of_dvd h] at this
  omega
section
variable {p b : Int} {w n q : Nat} {S : Nat → Vec} {E E' : List En} {xs ys left : List Int} {M' M2 : List (Int × Int)} {e0 : En}
theorem SI.new (hp : Pr p) (hw : w ≤ 50) (hn : n < 90) (h : SI p w S n E) (f : Fallen p w E xs ys [((n : Int), 1)] M') (hS : ∀ j, j < w → S n j = xs.getD j 0)
    (hq : q < w) (hy0 : ys.getD q 0 ≠ 0) (hlo : ∀ j, j < q → ys.getD j 0 = 0) (hb : b * ys.getD q 0 % p = 1) (h1 : e0.q = q) (h2 : e0.L = left) (h3 : e0.M = M2) (hleft : IsRow p w left) (hl : ∀ j, j < w → p ∣ left.getD j 0 - ys.getD j 0 * b)
    (hM2n : (keysM M2).Nodup) (hM2k : ∀ i ∈ keysM M2, i ∈ keysM M') (hM2 : ∀ i, p ∣ co M2 i - co M' i * b) (hc : Paired (Clr p q left M2) E E') : SI p w S (n + 1) (e0 :: E') ∧ Al p w S n := by
  have hpos : 0 < p := by have := hp.two; omega
  obtain ⟨a1, a2⟩ := paired_mem hc
  have hfl := h.left f
  obtain ⟨hy, hv, hnd, _, hks, t, ht, htc⟩ := id f
  have hnS : Al p w S n := fun hs => by
    have h5 : Sp p w (upto S n) (vecL xs) := hs.eq fun j hj => by simp only [vecL]; exact hS j hj
    have hz := hfl.mpr h5 q hq
    exact hy0 (dvd_small hz (hy.at hq).1 (hy.at hq).2)
  have hz0 : ∀ e ∈ E, ys.getD e.q 0 = 0 := fun e he => dvd_small (hv e he) (hy.at (h.rr.lt e he)).1 (hy.at (h.rr.lt e he)).2
  have hlz : ∀ e ∈ E, p ∣ left.getD e.q 0 := fun e he => by
    have := hl e.q (h.rr.lt e he)
    rw [hz0 e he] at this
    exact dvd1 1 this (by grind)
  have hb1 : p ∣ b * ys.getD q 0 - 1 := by
    have := Int.emod_add_mul_ediv (b * ys.getD q 0) p
    exact ⟨b * ys.getD q 0 / p, by grind⟩
  have hl1 : p ∣ left.getD q 0 - 1 := dvd2 1 1 (hl q hq) hb1 (by grind)
  have hqE : ∀ e ∈ E, e.q ≠ q := fun e he e1 => by
    have := hz0 e he
    rw [e1] at this
    exact hy0 this
  have hsupp : ∀ x ∈ keysM M2, ∃ i, i < n + 1 ∧ x = (i : Int) ∧ Al p w S i := fun x hx => by
    rcases hks x (hM2k x hx) with h5 | ⟨e, he, h5⟩
    · simp at h5; exact ⟨n, by omega, h5, hnS⟩
    · obtain ⟨i, hi, e1, e2⟩ := h.supp e he x h5
      exact ⟨i, by omega, e1, e2⟩
  have hsuppE : ∀ e ∈ E, ∀ e', Clr p q left M2 e e' → ∀ x ∈ keysM e'.M, ∃ i, i < n + 1 ∧ x = (i : Int) ∧ Al p w S i := fun e he e' hcl x hx => by
    rcases hcl.keys x hx with h5 | h5
    · obtain ⟨i, hi, e1, e2⟩ := h.supp e he x h5
      exact ⟨i, by omega, e1, e2⟩
    · exact hsupp x h5
  have hlen : ∀ M : List (Int × Int), (keysM M).Nodup → (∀ x ∈ keysM M, ∃ i, i < n + 1 ∧ x = (i : Int) ∧ Al p w S i) → M.length ≤ 100 := fun M hn2 hs => by
    have := pigeonI hn2 fun x hx => by
      obtain ⟨i, hi, e1, _⟩ := hs x hx
      exact ⟨i, hi, e1⟩
    simp at this
    omega
  have hndq : ((e0 :: E').map (·.q)).Nodup := by
    rw [List.map_cons, clr_q hc, h1]
    refine List.nodup_cons.mpr ⟨fun hm => ?_, h.rr.nd⟩
    obtain ⟨e, he, e1⟩ := List.mem_map.mp hm
    exact hqE e he e1
  have hat : ∀ e ∈ E, ∀ e', Clr p q left M2 e e' → ∀ j, j < w → p ∣ e'.L.getD j 0 - (e.L.getD j 0 - e.L.getD q 0 * left.getD j 0) := fun e he e' hcl j hj => by
    rw [hcl.L_]
    exact less_at (h.rr.row e he) hleft hj
  have hltq : ∀ e ∈ e0 :: E', e.q < w := fun e he => by
    rcases List.mem_cons.mp he with rfl | he
    · rw [h1]; exact hq
    · obtain ⟨x, hx, hcl⟩ := a1 e he
      rw [hcl.q_]; exact h.rr.lt x hx
  have hrr : RR p w (e0 :: E') := by
    refine ⟨?_, hndq, fun e he => ?_, hltq, fun e he => ?_, fun e he e' he' hne => ?_, fun e he => ?_, fun e he => ?_, fun e he j hj => ?_⟩
    · have := pigeon w _ hndq fun x hx => by
        obtain ⟨e, he, rfl⟩ := List.mem_map.mp hx
        exact hltq e he
      simp only [List.length_map] at this
      omega
    · rcases List.mem_cons.mp he with rfl | he
      · rw [h2]; exact hleft
      · obtain ⟨x, hx, hcl⟩ := a1 e he
        rw [hcl.L_]; exact (h.rr.row x hx).less hpos hleft
    · rcases List.mem_cons.mp he with rfl | he
      · rw [h2, h1]; exact hl1
      · obtain ⟨x, hx, hcl⟩ := a1 e he
        have h5 := hat x hx e hcl x.q (h.rr.lt x hx)
        rw [hcl.q_]
        exact dvd3 1 1 (-(x.L.getD q 0)) h5 (h.rr.one x hx) (hlz x hx) (by grind)
    · rcases List.mem_cons.mp he with rfl | he
      · rcases List.mem_cons.mp he' with rfl | he'
        · exact absurd rfl hne
        · obtain ⟨x, hx, hcl⟩ := a1 e' he'
          have h5 := hat x hx e' hcl q hq
          rw [h1]
          exact dvd2 1 (-(x.L.getD q 0)) h5 hl1 (by grind)
      · obtain ⟨x, hx, hcl⟩ := a1 e he
        rcases List.mem_cons.mp he' with rfl | he'
        · rw [h2, hcl.q_]; exact hlz x hx
        · obtain ⟨y, hy', hcl'⟩ := a1 e' he'
          rw [hcl.q_] at hne ⊢
          rw [hcl'.q_] at hne
          have h5 := hat y hy' e' hcl' x.q (h.rr.lt x hx)
          exact dvd3 1 1 (-(y.L.getD q 0)) h5 (h.rr.off x hx y hy' hne) (hlz x hx) (by grind)
    · rcases List.mem_cons.mp he with rfl | he
      · rw [h3]; exact hM2n
      · obtain ⟨x, hx, hcl⟩ := a1 e he
        exact hcl.nd
    · rcases List.mem_cons.mp he with rfl | he
      · rw [h3]; exact hlen M2 hM2n hsupp
      · obtain ⟨x, hx, hcl⟩ := a1 e he
        exact hlen e.M hcl.nd (hsuppE x hx e hcl)
    · have hl0 : ∀ j, j < q → p ∣ left.getD j 0 := fun j hj => by
        have := hl j (by omega)
        rw [hlo j hj] at this
        exact dvd1 1 this (by grind)
      rcases List.mem_cons.mp he with rfl | he
      · rw [h1] at hj
        rw [h2]
        exact hl0 j hj
      · obtain ⟨x, hx, hcl⟩ := a1 e he
        rw [hcl.q_] at hj
        have hw2 := h.rr.lt x hx
        have h5 := hat x hx e hcl j (by omega)
        have h6 := h.rr.low x hx j hj
        rcases Nat.lt_or_ge j q with hjq | hjq
        · exact dvd3 1 1 (-(x.L.getD q 0)) h5 h6 (hl0 j hjq) (by grind)
        · exact dvd3 1 1 (-(left.getD j 0)) h5 h6 (h.rr.low x hx q (by omega)) (by grind)
  -- how the new row is made
  have hmade1 : ∀ e ∈ E, ∀ j, j < w → p ∣ e.L.getD j 0 - sm (n + 1) fun i => co e.M (i : Int) * S i j := fun e he j hj => by
    simp only [sm]
    rw [h.co0 he]
    exact dvd1 1 (h.made e he j hj) (by grind)
  have hmadeN : ∀ j, j < w → p ∣ left.getD j 0 - sm (n + 1) fun i => co M2 (i : Int) * S i j := fun j hj => by
    have g1 : p ∣ sm (n + 1) (fun i => co M2 (i : Int) * S i j) - sm (n + 1) fun i => (co M' (i : Int) * b) * S i j := sm_cong (fun i _ => hM2 i)
    have g2 : p ∣ sm (n + 1) (fun i => co M' (i : Int) * S i j) - sm (n + 1) fun i => (co [((n : Int), (1 : Int))] (i : Int) - sumE E fun e => t e.q * co e.M (i : Int)) * S i j := sm_cong (fun i _ => htc i)
    have g3 : sm (n + 1) (fun i => (co M' (i : Int) * b) * S i j) = b * sm (n + 1) fun i => co M' (i : Int) * S i j := by
      have := sm_lin b 0 (fun i => co M' (i : Int) * S i j) (fun _ => 0) (n + 1)
      rw [sm_congr (g := fun i => b * (co M' (i : Int) * S i j) + 0 * 0) fun i _ => by grind, this]
      grind
    have g4 : sm (n + 1) (fun i => (co [((n : Int), (1 : Int))] (i : Int) - sumE E fun e => t e.q * co e.M (i : Int)) * S i j) = S n j - sumE E fun e => t e.q * sm (n + 1) fun i => co e.M (i : Int) * S i j := by
      have := sm_lin 1 (-1) (fun i => co [((n : Int), (1 : Int))] (i : Int) * S i j) (fun i => (sumE E fun e => t e.q * co e.M (i : Int)) * S i j) (n + 1)
      rw [sm_congr (g := fun i => 1 * (co [((n : Int), (1 : Int))] (i : Int) * S i j) + -1 * ((sumE E fun e => t e.q * co e.M (i : Int)) * S i j)) fun i _ => by grind, this, sm_sumE (t := fun e => t e.q) (f := fun e i => co e.M (i : Int)) (g := fun i => S i j)]
      have g5 : sm (n + 1) (fun i => co [((n : Int), (1 : Int))] (i : Int) * S i j) = S n j := by
        simp only [sm]
        rw [sm_zero fun i hi => by
          have : ¬ (n : Int) = (i : Int) := by omega
          simp [co, this]]
        simp [co]
      rw [g5]
      grind
    have g6 : p ∣ (sumE E fun e => t e.q * e.L.getD j 0) - sumE E fun e => t e.q * sm (n + 1) fun i => co e.M (i : Int) * S i j := sumE_cong fun e he => dvd1 (t e.q) (hmade1 e he j hj) (by grind)
    have g7 := hl j hj
    have g8 := ht j hj
    rw [g3] at g1
    rw [g4] at g2
    rw [hS j hj] at g2
    obtain ⟨k1, e1⟩ := g1
    obtain ⟨k2, e2⟩ := g2
    obtain ⟨k6, e6⟩ := g6
    obtain ⟨k7, e7⟩ := g7
    obtain ⟨k8, e8⟩ := g8
    exact ⟨k7 - k1 + b * (k8 - k2 - k6), by grind⟩
  refine ⟨⟨hrr, fun e he j hj => ?_, fun e he x hx => ?_, fun i hi => ?_⟩, hnS⟩
  · rcases List.mem_cons.mp he with rfl | he
    · rw [h2, h3]; exact hmadeN j hj
    · obtain ⟨x, hx, hcl⟩ := a1 e he
      have g1 : p ∣ sm (n + 1) (fun i => co e.M (i : Int) * S i j) - sm (n + 1) fun i => (co x.M (i : Int) - x.L.getD q 0 * co M2 (i : Int)) * S i j := sm_cong (fun i _ => hcl.co_ i)
      have g2 := sm_lin 1 (-(x.L.getD q 0)) (fun i => co x.M (i : Int) * S i j) (fun i => co M2 (i : Int) * S i j) (n + 1)
      rw [sm_congr (f := fun i => (co x.M (i : Int) - x.L.getD q 0 * co M2 (i : Int)) * S i j) (g := fun i => 1 * (co x.M (i : Int) * S i j) + -(x.L.getD q 0) * (co M2 (i : Int) * S i j)) fun i _ => by grind, g2] at g1
      obtain ⟨k1, e1⟩ := g1
      obtain ⟨k2, e2⟩ := hat x hx e hcl j hj
      obtain ⟨k3, e3⟩ := hmade1 x hx j hj
      obtain ⟨k4, e4⟩ := hmadeN j hj
      exact ⟨k2 - k1 + k3 - x.L.getD q 0 * k4, by grind⟩
  · rcases List.mem_cons.mp he with rfl | he
    · rw [h3] at hx; exact hsupp x hx
    · obtain ⟨y, hy', hcl⟩ := a1 e he
      exact hsuppE y hy' e hcl x hx
  · have hnew : Sp p w ((e0 :: E').map vecE) (vecL left) := by
      have : Sp p w ((e0 :: E').map vecE) (vecE e0) := Sp.mem (List.mem_map.mpr ⟨e0, List.mem_cons_self, rfl⟩)
      exact this.eq fun j _ => by simp only [vecE, h2]
    have hold : ∀ L ∈ E.map vecE, Sp p w ((e0 :: E').map vecE) L := fun L hL => by
      obtain ⟨e, he, rfl⟩ := List.mem_map.mp hL
      obtain ⟨e', he', hcl⟩ := a2 e he
      have g1 : Sp p w ((e0 :: E').map vecE) (vecE e') := Sp.mem (List.mem_map.mpr ⟨e', List.mem_cons_of_mem _ he', rfl⟩)
      exact (g1.add (hnew.smul (e.L.getD q 0))).congr fun j hj => dvd1 1 (hat e he e' hcl j hj) (by simp only [vecE, vecL]; grind)
    by_cases hin : i = n
    · subst hin
      have g1 : Sp p w ((e0 :: E').map vecE) (fun j => sumE E fun e => t e.q * e.L.getD j 0) := Sp.trans hold (sp_sumE (t := fun e => t e.q))
      refine (g1.add (hnew.smul (ys.getD q 0))).congr fun j hj => ?_
      simp only [vecL]
      rw [hS j hj]
      obtain ⟨k1, e1⟩ := ht j hj
      obtain ⟨k2, e2⟩ := hl j hj
      obtain ⟨k3, e3⟩ := hb1
      exact ⟨k1 + ys.getD q 0 * k2 + ys.getD j 0 * k3, by grind⟩
    · exact Sp.trans hold (h.all i (by omega))
end
end DL
end
/-! ### P13 -/
section
set_option linter.all false
set_option maxRecDepth 100000
/-! P13: Steps.take. -/
namespace DL
open PySem PySem.Spec L2
open PyProof.Rows hiding St
open LA
/-- all but k stays -/
def But (k : Nat) (s s' : Sto) : Prop := s.length ≤ s'.length ∧ ∀ i, i ≠ k → i < s.length → s'[i]? = s[i]?
theorem But.refl {k : Nat} {s : Sto} : But k s s := ⟨Nat.le_refl _, fun _ _ _ => rfl⟩
theorem But.trans {k : Nat} {s s1 s2 : Sto} (a : But k s s1) (b : But k s1 s2) : But k s s2 := ⟨Nat.le_trans a.1 b.1, fun i hi hl => (b.2 i hi (Nat.lt_of_lt_of_le hl a.1)).trans (a.2 i hi hl)⟩
theorem Pre.but {k : Nat} {s s1 : Sto} (a : Pre s s1) : But k s s1 := ⟨a.1, fun i _ hl => a.2 i hl⟩
theorem But.get {k : Nat} {s s1 : Sto} (a : But k s s1) {n : Nat} {ob : Ob} (h : s[n]? = some ob) (hn : n ≠ k) : s1[n]? = some ob := by rw [a.2 n hn (len_of h)]; exact h
theorem md_kv {M : List (Int × Int)} {F : List En} (h : mdD M = kvD F) : F = [] := by
  cases F with
  | nil => rfl
  | cons f F =>
    cases M with
    | nil => simp at h
    | cons x M => simp at h
theorem EnAt.ne {s : Sto} {e : En} {r : Nat} {F : List En} (h : EnAt s e) (hr : s[r]? = some (.dct (kvD F))) (hF : F ≠ []) : e.l ≠ r ∧ e.m ≠ r := by
  constructor
  · intro q
    have := h.1
    rw [q, hr] at this
    cases this
  · intro q
    have := h.2
    rw [q, hr] at this
    have e2 : kvD F = mdD e.M := by
      injection this with h1
      injection h1
    exact hF (md_kv e2.symm)
end DL
end
/-! ### P14 -/
section
set_option linter.all false
set_option maxRecDepth 100000
/-! P14: steps_of, made_by, made_of. -/
namespace DL
open PySem PySem.Spec L2
open PyProof.Rows hiding St
open LA
abbrev famL (T : List (List Int)) : Nat → Vec := fun i => vecL (T.getD i [])
open Classical in
/-- how many of the first n are not made of those ahead -/
noncomputable def rk (p : Int) (w : Nat) (S : Nat → Vec) : Nat → Nat
  | 0 => 0
  | n + 1 => rk p w S n + if Al p w S n then 1 else 0
theorem SI.nil {p : Int} {w : Nat} {S : Nat → Vec} : SI p w S 0 [] := ⟨⟨by simp, .nil, by simp, by simp, by simp, by simp, by simp, by simp, by simp⟩, by simp, by simp, fun i hi => by omega⟩
theorem But.pre {k : Nat} {s s1 s2 : Sto} (a : Pre s s1) (b : But k s1 s2) (hk : s.length ≤ k) : Pre s s2 := ⟨Nat.le_trans a.1 b.1, fun i hi => (b.2 i (by omega) (Nat.lt_of_lt_of_le hi a.1)).trans (a.2 i hi)⟩
/-- the values by which a sum is made of sums that are alone -/
structure Sol (p : Int) (w n : Nat) (S : Nat → Vec) (v : Vec) (c : List Int) : Prop where
  len : c.length = n
  bd : ∀ x ∈ c, 0 ≤ x ∧ x < p
  al : ∀ i, i < n → Al p w S i ∨ c.getD i 0 = 0
  eq : ∀ j, j < w → p ∣ v j - sm n fun i => c.getD i 0 * S i j
theorem Sol.uniq {p : Int} {w n : Nat} {S : Nat → Vec} {v : Vec} {c c' : List Int} (hp : Pr p) (h : Sol p w n S v c) (h' : Sol p w n S v c') : c = c' := by
  have key := LA.uniq (w := w) hp (S := S) (n := n) (c := fun i => c.getD i 0 - c'.getD i 0) (fun i hi => by
    rcases h.al i hi with a | a
    · exact .inl a
    · rcases h'.al i hi with b | b
      · exact .inl b
      · exact .inr ⟨0, by rw [a, b]; simp⟩) (fun j hj => by
    have g := sm_lin 1 (-1) (fun i => c.getD i 0 * S i j) (fun i => c'.getD i 0 * S i j) n
    rw [sm_congr (g := fun i => 1 * (c.getD i 0 * S i j) + -1 * (c'.getD i 0 * S i j)) fun i _ => by grind, g]
    exact dvd2 (-1) 1 (h.eq j hj) (h'.eq j hj) (by grind))
  apply List.ext_getElem
  · rw [h.len, h'.len]
  · intro i h1 h2
    have hi : i < n := by rw [← h.len]; exact h1
    have k := key i hi
    have b1 := h.bd _ (List.getElem_mem h1)
    have b2 := h'.bd _ (List.getElem_mem h2)
    have e1 : c.getD i 0 = c[i] := by simp [List.getD_eq_getElem?_getD, List.getElem?_eq_getElem h1]
    have e2 : c'.getD i 0 = c'[i] := by simp [List.getD_eq_getElem?_getD, List.getElem?_eq_getElem h2]
    rw [e1, e2] at k
    obtain ⟨x, hx⟩ := k
    have : x = 0 := by
      by_cases h0 : x = 0
      · exact h0
      · exfalso
        rcases Int.lt_or_gt_of_ne h0 with h3 | h3
        · have := Int.mul_le_mul_of_nonneg_left (show x ≤ -1 by omega) (show 0 ≤ p by omega)
          omega
        · have := Int.mul_le_mul_of_nonneg_left (show 1 ≤ x by omega) (show 0 ≤ p by omega)
          omega
    rw [this] at hx
    omega
end DL
end
/-! ### P15 -/
section
set_option linter.all false
set_option maxRecDepth 100000
/-! P15: made_by, made_of. -/
namespace DL
open PySem PySem.Spec L2
open PyProof.Rows hiding St
open LA
end DL
end
/-! ### P16 -/
section
set_option linter.all false
set_option maxRecDepth 100000
/-! P16: the law's own: times, inverse, fallen. -/
namespace DL
open PySem PySem.Spec L2
open PyProof.Rows hiding St
open LA
/-- a step of the law's: the row, where it stands -/
structure Ls where
  q : Nat
  l : Nat
  L : List Int
abbrev lsD (e : Ls) : D := .tup [.int (e.q : Int), .loc e.l]
abbrev rowsL (R : List Ls) : List (Nat × Vec) := R.map fun e => (e.q, vecL e.L)
abbrev srtL (R : List Ls) : List Ls := sortK (fun e => (e.q : Int)) R
end DL
end
/-! ### P17 -/
section
set_option linter.all false
set_option maxRecDepth 100000
/-! P17: the law's taken. -/
namespace DL
open PySem PySem.Spec L2
open PyProof.Rows hiding St
open LA
/-- the law's rows: each 0 ahead of its place, there 1; they make what the first n sums make -/
structure LI (p : Int) (w : Nat) (S : Nat → Vec) (n : Nat) (R : List Ls) : Prop where
  few : R.length ≤ n
  nd : (R.map (·.q)).Nodup
  row : ∀ e ∈ R, IsRow p w e.L
  lt : ∀ e ∈ R, e.q < w
  one : ∀ e ∈ R, p ∣ e.L.getD e.q 0 - 1
  low : ∀ e ∈ R, ∀ j, j < e.q → p ∣ e.L.getD j 0
  up : ∀ e ∈ R, Sp p w (upto S n) (vecL e.L)
  down : ∀ i, i < n → Sp p w (R.map fun e => vecL e.L) (S i)
section
variable {p : Int} {w n : Nat} {S : Nat → Vec} {R : List Ls}
theorem LI.nil : LI p w S 0 [] := ⟨by simp, by simp, by simp, by simp, by simp, by simp, by simp, fun i hi => by omega⟩
theorem tri_sorted : ∀ {Rs : List Ls}, Rs.Pairwise (fun a b => a.q < b.q) → (∀ e ∈ Rs, e.q < w) → (∀ e ∈ Rs, p ∣ e.L.getD e.q 0 - 1) → (∀ e ∈ Rs, ∀ j, j < e.q → p ∣ e.L.getD j 0) → Tri p w (rowsL Rs)
  | [], _, _, _, _ => trivial
  | e :: Rs, hs, h1, h2, h3 => by
    rw [List.pairwise_cons] at hs
    refine ⟨h1 e List.mem_cons_self, h2 e List.mem_cons_self, fun x hx => ?_, tri_sorted hs.2 (fun e he => h1 e (List.mem_cons_of_mem _ he)) (fun e he => h2 e (List.mem_cons_of_mem _ he)) (fun e he => h3 e (List.mem_cons_of_mem _ he))⟩
    obtain ⟨e', he', rfl⟩ := List.mem_map.mp hx
    exact h3 e' (List.mem_cons_of_mem _ he') e.q (hs.1 e' he')
theorem srtL_lt (h : (R.map (·.q)).Nodup) : (srtL R).Pairwise (fun a b => a.q < b.q) := by
  have h1 := sortK_sorted (fun e : Ls => (e.q : Int)) R
  have h2 : ((srtL R).map (·.q)).Nodup := ((sortK_perm (fun e : Ls => (e.q : Int)) R).map (·.q)).nodup_iff.mpr h
  rw [List.nodup_iff_pairwise_ne, List.pairwise_map] at h2
  exact (h1.and h2).imp fun {a b} ⟨x, y⟩ => by omega
theorem mem_srtL {e : Ls} : e ∈ srtL R ↔ e ∈ R := (sortK_perm (fun e : Ls => (e.q : Int)) R).mem_iff
theorem LI.tri (h : LI p w S n R) : Tri p w (rowsL (srtL R)) := tri_sorted (srtL_lt h.nd) (fun e he => h.lt e (mem_srtL.mp he)) (fun e he => h.one e (mem_srtL.mp he)) (fun e he => h.low e (mem_srtL.mp he))
theorem vs_rowsL {R : List Ls} : vs (rowsL R) = R.map fun e => vecL e.L := by simp [vs]
theorem LI.left (h : LI p w S n R) {v : Vec} : Z p w (fall (rowsL (srtL R)) v) ↔ Sp p w (upto S n) v := by
  rw [fall_iff h.tri, vs_rowsL]
  constructor
  · exact fun hv => Sp.trans (fun L hL => by
      obtain ⟨e, he, rfl⟩ := List.mem_map.mp hL
      exact h.up e (mem_srtL.mp he)) hv
  · intro hv
    have h1 : Sp p w (R.map fun e => vecL e.L) v := Sp.trans (fun L hL => by
      obtain ⟨i, hi, rfl⟩ := List.mem_map.mp hL
      exact h.down i (List.mem_range.mp hi)) hv
    exact h1.mono fun L hL => by
      obtain ⟨e, he, rfl⟩ := List.mem_map.mp hL
      exact List.mem_map.mpr ⟨e, mem_srtL.mpr he, rfl⟩
theorem LI.step (h : LI p w S n R) (hn : Sp p w (upto S n) (S n)) : LI p w S (n + 1) R := by
  refine ⟨by have := h.few; omega, h.nd, h.row, h.lt, h.one, h.low, fun e he => (h.up e he).mono fun L hL => by rw [upto_succ]; exact List.mem_append_left _ hL, fun i hi => ?_⟩
  by_cases e : i < n
  · exact h.down i e
  · have : i = n := by omega
    subst this
    exact Sp.trans (fun L hL => by
      obtain ⟨j, hj, rfl⟩ := List.mem_map.mp hL
      exact h.down j (List.mem_range.mp hj)) hn
/-- a new row: what was left, made 1 at its first place -/
theorem LI.new (h : LI p w S n R) (hp : Pr p) {v : Vec} {ys : List Int} {e : Ls} {b : Int} (hv : ∀ j, j < w → S n j = v j) (hy : IsRow p w ys) (hf : ∀ j, j < w → p ∣ ys.getD j 0 - fall (rowsL (srtL R)) v j)
    (hq : e.q < w) (h0 : ys.getD e.q 0 ≠ 0) (hlo : ∀ j, j < e.q → ys.getD j 0 = 0) (hb : p ∣ b * ys.getD e.q 0 - 1) (hrow : IsRow p w e.L) (hL : ∀ j, j < w → p ∣ e.L.getD j 0 - b * ys.getD j 0) : LI p w S (n + 1) (R ++ [e]) := by
  obtain ⟨a1, a2⟩ := fall_spec (v := v) h.tri
  rw [vs_rowsL] at a2
  have hpos : 0 < p := by have := hp.two; omega
  have hnew : ∀ e' ∈ R, e'.q ≠ e.q := fun e' he' heq => by
    have h1 := a1 (e'.q, vecL e'.L) (List.mem_map.mpr ⟨e', mem_srtL.mpr he', rfl⟩)
    have h2 := hf e'.q (h.lt e' he')
    have h3 : p ∣ ys.getD e'.q 0 := dvd2 1 1 h1 h2 (by grind)
    rw [heq] at h3
    have hb := hy.at hq
    exact h0 (dvd_small h3 hb.1 hb.2)
  have hmade : Sp p w (upto S n) (fun j => v j - fall (rowsL (srtL R)) v j) := Sp.trans (fun L hL => by
      obtain ⟨e', he', rfl⟩ := List.mem_map.mp hL
      exact h.up e' (mem_srtL.mp he')) a2
  have hmade2 : Sp p w (R.map fun e => vecL e.L) (fun j => v j - fall (rowsL (srtL R)) v j) := a2.mono fun L hL => by
      obtain ⟨e', he', rfl⟩ := List.mem_map.mp hL
      exact List.mem_map.mpr ⟨e', mem_srtL.mp he', rfl⟩
  refine ⟨by have := h.few; simp; omega, ?_, fun e' he' => ?_, fun e' he' => ?_, fun e' he' => ?_, fun e' he' j hj => ?_, fun e' he' => ?_, fun i hi => ?_⟩
  · rw [List.map_append, List.nodup_append]
    refine ⟨h.nd, by simp, fun x hx y hy => ?_⟩
    obtain ⟨e', he', rfl⟩ := List.mem_map.mp hx
    simp at hy
    rw [hy]
    exact hnew e' he'
  · rcases List.mem_append.mp he' with h1 | h1
    · exact h.row e' h1
    · rw [List.mem_singleton.mp h1]; exact hrow
  · rcases List.mem_append.mp he' with h1 | h1
    · exact h.lt e' h1
    · rw [List.mem_singleton.mp h1]; exact hq
  · rcases List.mem_append.mp he' with h1 | h1
    · exact h.one e' h1
    · rw [List.mem_singleton.mp h1]
      exact dvd2 1 1 (hL e.q hq) hb (by grind)
  · rcases List.mem_append.mp he' with h1 | h1
    · exact h.low e' h1 j hj
    · rw [List.mem_singleton.mp h1] at hj ⊢
      have h2 := hL j (by omega)
      rw [hlo j hj] at h2
      simpa using h2
  · rcases List.mem_append.mp he' with h1 | h1
    · exact (h.up e' h1).mono fun L hL => by rw [upto_succ]; exact List.mem_append_left _ hL
    · rw [List.mem_singleton.mp h1, upto_succ]
      have s1 : Sp p w (upto S n ++ [S n]) (fun j => v j - fall (rowsL (srtL R)) v j) := hmade.mono fun L hL => List.mem_append_left _ hL
      have s2 : Sp p w (upto S n ++ [S n]) (S n) := Sp.mem (by simp)
      have s3 := (s2.sub s1).smul b
      refine s3.congr fun j hj => ?_
      have g1 := hL j hj
      have g2 := hf j hj
      have g3 := hv j hj
      exact dvd2 (-1) (-b) g1 g2 (by simp only [vecL]; grind)
  · rw [List.map_append, List.map_singleton]
    by_cases e0 : i < n
    · exact (h.down i e0).mono fun L hL => List.mem_append_left _ hL
    · have : i = n := by omega
      subst this
      refine Sp.snoc.mpr ⟨ys.getD e.q 0, hmade2.congr fun j hj => ?_⟩
      have g1 := hL j hj
      have g2 := hf j hj
      have g3 := hv j hj
      exact dvd3 1 (ys.getD e.q 0) (ys.getD j 0) g2 g1 hb (by simp only [vecL]; grind)
end
end DL
end
/-! ### P18 -/
section
set_option linter.all false
set_option maxRecDepth 100000
/-! P18: the law's taken: the walk. -/
namespace DL
open PySem PySem.Spec L2
open PyProof.Rows hiding St
open LA
open Classical in
/-- which of the first n are not made of those ahead -/
noncomputable def alL (p : Int) (w : Nat) (S : Nat → Vec) (n : Nat) : List Nat := (List.range n).filter fun i => decide (Al p w S i)
theorem alL_mem {p : Int} {w n i : Nat} {S : Nat → Vec} : i ∈ alL p w S n ↔ i < n ∧ Al p w S i := by
  unfold alL
  rw [List.mem_filter]
  simp
abbrev natsD (l : List Nat) : List D := l.map fun (i : Nat) => D.int (i : Int)
/-- what the law's taken keeps -/
structure TkAt (s : Sto) (f k : Nat) (p : Int) (w : Nat) (S : Nat → Vec) (n : Nat) (R : List Ls) : Prop where
  hf : s[f]? = some (.lst (natsD (alL p w S n)))
  hk : s[k]? = some (.lst (R.map lsD))
  en : ∀ e ∈ R, s[e.l]? = some (.lst (e.L.map .int)) ∧ e.l ≠ f ∧ e.l ≠ k
  li : LI p w S n R
  len : R.length = (alL p w S n).length
theorem TkAt.pre {s s1 : Sto} {f k : Nat} {p : Int} {w : Nat} {S : Nat → Vec} {n : Nat} {R : List Ls} (h : TkAt s f k p w S n R) (a : Pre s s1) : TkAt s1 f k p w S n R :=
  ⟨a.get h.hf, a.get h.hk, fun e he => ⟨a.get (h.en e he).1, (h.en e he).2⟩, h.li, h.len⟩
end DL
end
/-! ### P19 -/
section
set_option linter.all false
set_option maxRecDepth 100000
/-! P19: rows made unit rows, column by column; no program. -/
namespace DL
open PySem PySem.Spec L2
open PyProof.Rows hiding St
open LA
/-- a row, where it stands -/
structure Gr where
  l : Nat
  row : List Int
def Ker (p : Int) (M : Nat) (G : List Gr) (x : Nat → Int) : Prop := ∀ (r : Nat) (e : Gr), G[r]? = some e → p ∣ sm M fun i => x i * e.row.getD i 0
section
variable {p : Int} {M : Nat} {G : List Gr} {x : Nat → Int}
theorem sm_comb {f f' g : Nat → Int} {u t : Int} (h : ∀ j, j < M → p ∣ f' j - (u * f j + t * g j)) : p ∣ sm M (fun i => x i * f' i) - (u * sm M (fun i => x i * f i) + t * sm M (fun i => x i * g i)) := by
  have h1 := sm_lin u t (fun i => x i * f i) (fun i => x i * g i) M
  rw [← h1]
  have h2 := sm_lin 1 (-1) (fun i => x i * f' i) (fun i => u * (x i * f i) + t * (x i * g i)) M
  have h3 : p ∣ sm M fun i => 1 * (x i * f' i) + -1 * (u * (x i * f i) + t * (x i * g i)) := sm_dvd fun i hi => dvd1 (x i) (h i hi) (by grind)
  rw [h2] at h3
  exact dvd1 1 h3 (by grind)
theorem sm_delta {f : Nat → Int} {r : Nat} : ∀ {n : Nat}, sm n (fun i => f i * (if r = i then 1 else 0)) = if r < n then f r else 0
  | 0 => by simp [sm]
  | n + 1 => by
    simp only [sm]
    rw [sm_delta (n := n)]
    by_cases h : r = n
    · subst h; simp
    · by_cases h2 : r < n
      · rw [if_pos h2, if_neg h, if_pos (by omega)]; omega
      · rw [if_neg h2, if_neg h, if_neg (by omega)]; omega
theorem ker_set {r k : Nat} {e e' g : Gr} {u t : Int} (he : G[r]? = some e) (hg : t = 0 ∨ (k ≠ r ∧ G[k]? = some g)) (hu : ∃ u', p ∣ u * u' - 1) (h : ∀ j, j < M → p ∣ e'.row.getD j 0 - (u * e.row.getD j 0 + t * g.row.getD j 0)) : Ker p M (G.set r e') x ↔ Ker p M G x := by
  have hc := sm_comb (x := x) h
  have hr := (List.getElem?_eq_some_iff.mp he).1
  obtain ⟨u', hu⟩ := hu
  constructor
  · intro hk i ei hi
    by_cases hir : i = r
    · subst hir
      rw [he] at hi
      cases hi
      have h1 := hk i e' (by rw [List.getElem?_set_self hr])
      have h2 : p ∣ t * sm M fun i => x i * g.row.getD i 0 := by
        rcases hg with h0 | ⟨h0, h3⟩
        · rw [h0]; exact ⟨0, by grind⟩
        · exact dvd1 t (hk k g (by rw [List.getElem?_set_ne (Ne.symm h0)]; exact h3)) (by grind)
      obtain ⟨a, ha⟩ := hc
      obtain ⟨b, hb⟩ := h1
      obtain ⟨c, hc⟩ := h2
      obtain ⟨d, hd⟩ := hu
      rw [hb, hc] at ha
      generalize sm M (fun i => x i * e.row.getD i 0) = z at *
      exact ⟨u' * (b - a - c) - d * z, by grind⟩
    · exact hk i ei (by rw [List.getElem?_set_ne (Ne.symm hir)]; exact hi)
  · intro hk i ei hi
    by_cases hir : i = r
    · subst hir
      rw [List.getElem?_set_self hr] at hi
      cases hi
      have h1 := hk i e he
      have h2 : p ∣ t * sm M fun i => x i * g.row.getD i 0 := by
        rcases hg with h0 | ⟨h0, h3⟩
        · rw [h0]; exact ⟨0, by grind⟩
        · exact dvd1 t (hk k g h3) (by grind)
      exact dvd3 1 u 1 hc h1 h2 (by grind)
    · exact hk i ei (by rw [List.getElem?_set_ne (Ne.symm hir)] at hi; exact hi)
theorem swap_at {a b : Gr} {k q : Nat} (ha : G[k]? = some a) (hb : G[q]? = some b) (i : Nat) : ((G.set k b).set q a)[i]? = if i = q then some a else if i = k then some b else G[i]? := by
  have h1 := (List.getElem?_eq_some_iff.mp ha).1
  have h2 := (List.getElem?_eq_some_iff.mp hb).1
  by_cases hq : i = q
  · subst hq
    rw [if_pos rfl, List.getElem?_set_self (by simpa using h2)]
  · rw [if_neg hq, List.getElem?_set_ne (Ne.symm hq)]
    by_cases hk : i = k
    · subst hk
      rw [if_pos rfl, List.getElem?_set_self h1]
    · rw [if_neg hk, List.getElem?_set_ne (Ne.symm hk)]
theorem ker_swap {a b : Gr} {k q : Nat} (ha : G[k]? = some a) (hb : G[q]? = some b) : Ker p M ((G.set k b).set q a) x ↔ Ker p M G x := by
  constructor
  · intro h i e hi
    by_cases hk : i = k
    · subst hk
      rw [ha] at hi
      cases hi
      exact h q a (by rw [swap_at ha hb, if_pos rfl])
    · by_cases hq : i = q
      · subst hq
        rw [hb] at hi
        cases hi
        exact h k b (by rw [swap_at ha hb, if_neg (Ne.symm hk), if_pos rfl])
      · exact h i e (by rw [swap_at ha hb, if_neg hq, if_neg hk]; exact hi)
  · intro h i e hi
    rw [swap_at ha hb] at hi
    by_cases hq : i = q
    · rw [if_pos hq] at hi; cases hi; exact h k a ha
    · rw [if_neg hq] at hi
      by_cases hk : i = k
      · rw [if_pos hk] at hi; cases hi; exact h q b hb
      · rw [if_neg hk] at hi; exact h i e hi
end
/-- k columns are unit columns; the same values solve the rows -/
structure GI (p : Int) (w m k : Nat) (G0 G : List Gr) : Prop where
  len : G.length = w
  row : ∀ e ∈ G, IsRow p (m + 1) e.row
  unit : ∀ (r : Nat) (e : Gr), G[r]? = some e → ∀ c, c < k → p ∣ e.row.getD c 0 - (if r = c then 1 else 0)
  ker : ∀ x, Ker p (m + 1) G x ↔ Ker p (m + 1) G0 x
section
variable {p : Int} {w m k : Nat} {G0 G : List Gr}
theorem GI.lt (h : GI p w m k G0 G) {r : Nat} (hr : r < w) : ∃ e, G[r]? = some e ∧ IsRow p (m + 1) e.row := by
  have hl := h.len
  exact ⟨G[r]'(by omega), List.getElem?_eq_getElem (by omega), h.row _ (List.getElem_mem _)⟩
/-- what column c says of row r, where the first k columns are unit columns -/
theorem GI.comb (h : GI p w m k G0 G) {r : Nat} {e : Gr} (he : G[r]? = some e) (f : Nat → Int) : p ∣ (sm k fun i => f i * e.row.getD i 0) - if r < k then f r else 0 := by
  have h1 : p ∣ sm k (fun i => e.row.getD i 0 * f i) - sm k fun i => (if r = i then 1 else 0) * f i := sm_cong fun i hi => h.unit r e he i hi
  have e1 : sm k (fun i => (if r = i then 1 else 0) * f i) = sm k (fun i => f i * (if r = i then 1 else 0)) := sm_congr fun i _ => by grind
  have e2 : sm k (fun i => e.row.getD i 0 * f i) = sm k fun i => f i * e.row.getD i 0 := sm_congr fun i _ => by grind
  rw [e1, e2, sm_delta] at h1
  exact h1
theorem GI.swap (h : GI p w m k G0 G) {a b : Gr} {q : Nat} (ha : G[k]? = some a) (hb : G[q]? = some b) (hq : k ≤ q) : GI p w m k G0 ((G.set k b).set q a) := by
  refine ⟨by simp [h.len], fun e he => ?_, fun r e he c hc => ?_, fun x => (ker_swap ha hb).trans (h.ker x)⟩
  · rcases List.mem_or_eq_of_mem_set he with h1 | h1
    · rcases List.mem_or_eq_of_mem_set h1 with h2 | h2
      · exact h.row e h2
      · rw [h2]; exact h.row b (List.mem_of_getElem? hb)
    · rw [h1]; exact h.row a (List.mem_of_getElem? ha)
  · rw [swap_at ha hb] at he
    by_cases h1 : r = q
    · rw [if_pos h1] at he
      cases he
      have := h.unit k a ha c hc
      rw [if_neg (by omega)] at this ⊢
      exact this
    · rw [if_neg h1] at he
      by_cases h2 : r = k
      · rw [if_pos h2] at he
        cases he
        have := h.unit q b hb c hc
        rw [if_neg (by omega)] at this ⊢
        exact this
      · rw [if_neg h2] at he
        exact h.unit r e he c hc
/-- in the midst of clearing column k: the rows ahead of i are 0 there -/
structure GC (p : Int) (w m k : Nat) (G0 G : List Gr) (g : Gr) (i : Nat) : Prop where
  gi : GI p w m k G0 G
  at_ : G[k]? = some g
  one : p ∣ g.row.getD k 0 - 1
  zero : ∀ (r : Nat) (e : Gr), r < i → r ≠ k → G[r]? = some e → e.row.getD k 0 = 0
theorem GC.done {g : Gr} (h : GC p w m k G0 G g w) : GI p w m (k + 1) G0 G := by
  refine ⟨h.gi.len, h.gi.row, fun r e he c hc => ?_, h.gi.ker⟩
  by_cases h1 : c < k
  · exact h.gi.unit r e he c h1
  · have : c = k := by omega
    subst this
    by_cases h2 : r = c
    · subst h2
      rw [h.at_] at he
      cases he
      rw [if_pos rfl]
      exact h.one
    · rw [if_neg h2, h.zero r e (by rw [← h.gi.len]; exact (List.getElem?_eq_some_iff.mp he).1) h2 he]
      exact ⟨0, by omega⟩
theorem GC.step {g a a' : Gr} {i : Nat} {t : Int} (h : GC p w m k G0 G g i) (ha : G[i]? = some a) (hik : i ≠ k) (hrow : IsRow p (m + 1) a'.row) (hL : ∀ j, j < m + 1 → p ∣ a'.row.getD j 0 - (a.row.getD j 0 + t * g.row.getD j 0)) (ht : p ∣ t + a.row.getD k 0) (hkm : k < m) : GC p w m k G0 (G.set i a') g (i + 1) := by
  have hi := (List.getElem?_eq_some_iff.mp ha).1
  refine ⟨⟨by simp [h.gi.len], fun e he => ?_, fun r e he c hc => ?_, fun x => (ker_set (t := t) (g := g) (k := k) (u := 1) ha (.inr ⟨Ne.symm hik, h.at_⟩) ⟨1, 0, by omega⟩ fun j hj => ?_).trans (h.gi.ker x)⟩, ?_, h.one, fun r e hr hne he => ?_⟩
  · rcases List.mem_or_eq_of_mem_set he with h1 | h1
    · exact h.gi.row e h1
    · rw [h1]; exact hrow
  · by_cases h1 : r = i
    · subst h1
      rw [List.getElem?_set_self hi] at he
      cases he
      have h2 := h.gi.unit r a ha c hc
      have h3 := h.gi.unit k g h.at_ c hc
      rw [if_neg (by omega)] at h3
      exact dvd3 1 1 t (hL c (by omega)) h2 h3 (by grind)
    · rw [List.getElem?_set_ne (Ne.symm h1)] at he
      exact h.gi.unit r e he c hc
  · exact dvd1 1 (hL j hj) (by grind)
  · rw [List.getElem?_set_ne hik]; exact h.at_
  · by_cases h1 : r = i
    · subst h1
      rw [List.getElem?_set_self hi] at he
      cases he
      have h2 := hL k (by omega)
      have hb := hrow.at (show k < m + 1 by omega)
      exact dvd_small (dvd3 1 1 t h2 ht h.one (by grind)) hb.1 hb.2
    · rw [List.getElem?_set_ne (Ne.symm h1)] at he
      exact h.zero r e (by omega) hne he
end
end DL
end
/-! ### P20 -/
section
set_option linter.all false
set_option maxRecDepth 100000
/-! P20: rows in the store; swapped things. -/
namespace DL
open PySem PySem.Spec L2
open PyProof.Rows hiding St
open LA
/-- a list of rows, each in its own place -/
def RowsAt (s : Sto) (n : Nat) (G : List Gr) : Prop := s[n]? = some (.lst (G.map fun e => .loc e.l)) ∧ ∀ e ∈ G, s[e.l]? = some (.lst (e.row.map .int)) ∧ e.l ≠ n
theorem RowsAt.pre {s s1 : Sto} {n : Nat} {G : List Gr} (h : RowsAt s n G) (a : Pre s s1) : RowsAt s1 n G := ⟨a.get h.1, fun e he => ⟨a.get (h.2 e he).1, (h.2 e he).2⟩⟩
theorem RowsAt.set {s : Sto} {n r : Nat} {G : List Gr} {e : Gr} (h : RowsAt s n G) (he : s[e.l]? = some (.lst (e.row.map .int))) (hn : e.l ≠ n) : RowsAt (s.set n (.lst ((G.map fun e => D.loc e.l).set r (.loc e.l)))) n (G.set r e) := by
  refine ⟨?_, fun e' he' => ?_⟩
  · rw [set_same h.1, List.map_set]
  · rcases List.mem_or_eq_of_mem_set he' with h1 | h1
    · rw [set_other (Ne.symm (h.2 e' h1).2)]
      exact h.2 e' h1
    · rw [h1, set_other (Ne.symm hn)]
      exact ⟨he, hn⟩
theorem RowsAt.ix {s : Sto} {n r : Nat} {G : List Gr} {e : Gr} (h : RowsAt s n G) (he : G[r]? = some e) : gIx (.loc n) (.int (r : Int)) s = some (.loc e.l, s) := by
  have hl := (List.getElem?_eq_some_iff.mp he).1
  rw [gIx_lst h.1, atI_in (a := .loc e.l) (by omega)]
  · rfl
  · rw [List.getElem?_map]
    have : (r : Int).toNat = r := by omega
    rw [this, he]
    rfl
theorem RowsAt.put {s : Sto} {n r : Nat} {G : List Gr} {d : D} (h : RowsAt s n G) (hl : r < G.length) : gSet (.loc n) (.int (r : Int)) d s = some (s.set n (.lst ((G.map fun e => D.loc e.l).set r d))) := by
  have := gSet_lst (v := d) h.1 (ixN_nn (i := (r : Int)) (by omega) (by simp; omega))
  have e : (r : Int).toNat = r := by omega
  rw [e] at this
  exact this
theorem gAdd_rows {s : Sto} {a b : Nat} {xs ys : List D} (h1 : s[a]? = some (.lst xs)) (h2 : s[b]? = some (.lst ys)) (hl : xs.length + ys.length ≤ sizeLine) : gAdd (.loc a) (.loc b) s = some (.loc s.length, s ++ [.lst (xs ++ ys)]) := by
  simp [gAdd, h1, h2, hl]
/-- the sums that are alone, in their order -/
noncomputable abbrev S' (p : Int) (w : Nat) (T : List (List Int)) : Nat → Vec := fun c => famL T ((alL p w (famL T) T.length).getD c 0)
end DL
end
/-! ### P21 -/
section
set_option linter.all false
set_option maxRecDepth 100000
/-! P21: the sums that are alone make all; in one way. -/
namespace DL
open PySem PySem.Spec L2
open PyProof.Rows hiding St
open LA
section
variable {p : Int} {w : Nat} {S : Nat → Vec}
theorem alL_sorted (n : Nat) : (alL p w S n).Pairwise (· < ·) := by
  unfold alL
  exact (List.pairwise_lt_range).filter _
theorem alL_lt {n a b : Nat} (hb : b < (alL p w S n).length) (h : a < b) : (alL p w S n).getD a 0 < (alL p w S n).getD b 0 := by
  have := List.pairwise_iff_getElem.mp (alL_sorted (p := p) (w := w) (S := S) n) a b (by omega) hb h
  simpa [List.getD_eq_getElem?_getD, List.getElem?_eq_getElem hb, List.getElem?_eq_getElem (show a < (alL p w S n).length by omega)] using this
theorem alL_getD {n c : Nat} (hc : c < (alL p w S n).length) : (alL p w S n).getD c 0 < n ∧ Al p w S ((alL p w S n).getD c 0) := by
  have : (alL p w S n).getD c 0 ∈ alL p w S n := by
    rw [List.getD_eq_getElem?_getD, List.getElem?_eq_getElem hc]
    exact List.getElem_mem hc
  exact alL_mem.mp this
end
theorem sm_put {g : Nat → Int} {f : Nat → Int} {a : Nat} {y : Int} (h0 : f a = 0) : ∀ {n : Nat}, a < n → sm n (fun i => (if i = a then y else f i) * g i) = sm n (fun i => f i * g i) + y * g a
  | 0, h => by omega
  | n + 1, h => by
    simp only [sm]
    by_cases e : a = n
    · subst e
      rw [if_pos rfl, sm_congr (g := fun i => f i * g i) fun i hi => by rw [if_neg (by omega)], h0]
      omega
    · rw [sm_put h0 (n := n) (by omega), if_neg (by omega)]
      omega
/-- the values, put in their places -/
structure By (p : Int) (w n : Nat) (S : Nat → Vec) (F : List Nat) (x : Nat → Int) (c : Nat) (ys : List Int) : Prop where
  len : ys.length = n
  bd : ∀ y ∈ ys, 0 ≤ y ∧ y < p
  al : ∀ i, ys.getD i 0 = 0 ∨ ∃ c', c' < c ∧ F.getD c' 0 = i
  eq : ∀ j, (sm n fun i => ys.getD i 0 * S i j) = sm c fun c' => x c' * S (F.getD c' 0) j
theorem By.start {p : Int} {w n : Nat} {S : Nat → Vec} {F : List Nat} {x : Nat → Int} (hp : 0 < p) : By p w n S F x 0 (List.replicate n 0) := by
  have h0 : ∀ i, (List.replicate n (0 : Int)).getD i 0 = 0 := fun i => by
    rw [List.getD_eq_getElem?_getD, List.getElem?_replicate]
    split <;> rfl
  refine ⟨by simp, fun y hy => by rw [List.eq_of_mem_replicate hy]; omega, fun i => .inl (h0 i), fun j => ?_⟩
  simp only [sm]
  exact sm_zero fun i hi => by rw [h0]; omega
theorem getD_set {ys : List Int} {a i : Nat} {y : Int} (h : a < ys.length) : (ys.set a y).getD i 0 = if i = a then y else ys.getD i 0 := by
  rw [List.getD_eq_getElem?_getD, List.getElem?_set]
  by_cases e : a = i
  · subst e
    simp [h]
  · rw [if_neg e, if_neg (Ne.symm e), List.getD_eq_getElem?_getD]
theorem By.step {p : Int} {w n : Nat} {S : Nat → Vec} {x : Nat → Int} {c : Nat} {ys : List Int} (h : By p w n S (alL p w S n) x c ys) (hc : c < (alL p w S n).length) (hb : 0 ≤ x c ∧ x c < p) : By p w n S (alL p w S n) x (c + 1) (ys.set ((alL p w S n).getD c 0) (x c)) := by
  have hl := (alL_getD hc).1
  have hl2 : (alL p w S n).getD c 0 < ys.length := by rw [h.len]; exact hl
  refine ⟨by simp [h.len], fun y hy => ?_, fun i => ?_, fun j => ?_⟩
  · rcases List.mem_or_eq_of_mem_set hy with h1 | h1
    · exact h.bd y h1
    · rw [h1]; exact hb
  · rw [getD_set hl2]
    by_cases e : i = (alL p w S n).getD c 0
    · exact .inr ⟨c, by omega, e.symm⟩
    · rw [if_neg e]
      rcases h.al i with h1 | ⟨c', h1, h2⟩
      · exact .inl h1
      · exact .inr ⟨c', by omega, h2⟩
  · have h0 : ys.getD ((alL p w S n).getD c 0) 0 = 0 := by
      rcases h.al ((alL p w S n).getD c 0) with h1 | ⟨c', h1, h2⟩
      · exact h1
      · have := alL_lt hc h1
        omega
    simp only [sm]
    rw [sm_congr (g := fun i => (if i = (alL p w S n).getD c 0 then x c else ys.getD i 0) * S i j) fun i hi => by rw [getD_set hl2], sm_put h0 hl, h.eq j]
end DL
end
/-! ### P22 -/
section
set_option linter.all false
set_option maxRecDepth 100000
/-! P22: the law's made. -/
namespace DL
open PySem PySem.Spec L2
open PyProof.Rows hiding St
open LA
theorem range_get {n i : Nat} {dd : D} (h : ((List.range n).map fun (i : Nat) => D.int (i : Int))[i]? = some dd) : i < n ∧ dd = .int (i : Int) := by
  rw [List.getElem?_map, Option.map_eq_some_iff] at h
  obtain ⟨j, h1, h2⟩ := h
  obtain ⟨h3, h4⟩ := List.getElem?_eq_some_iff.mp h1
  simp at h3 h4
  exact ⟨h3, by rw [← h2, ← h4]⟩
end DL
end
/-! ### P23 -/
section
set_option linter.all false
set_option maxRecDepth 100000
/-! P23: added. -/
namespace DL
open PySem PySem.Spec L2
open PyProof.Rows hiding St
open LA
end DL
end
/-! ### P24 -/
section
set_option linter.all false
set_option maxRecDepth 100000
/-! P24: is_made, and the law's. -/
namespace DL
open PySem PySem.Spec L2
open PyProof.Rows hiding St
open LA
/-- the type is known, and that of each thing in it -/
def KT (s : Sto) (d : D) : Prop := (∃ t, tyD s d = some t) ∧ ∀ ds, d = .tup ds → ∀ e ∈ ds, ∃ t, tyD s e = some t
theorem ty_pre {s s1 : Sto} (a : Pre s s1) {d : D} {t : String} (h : tyD s d = some t) : tyD s1 d = some t := by
  cases d with
  | loc n =>
    simp only [tyD] at h ⊢
    cases h1 : s[n]? with
    | none => rw [h1] at h; cases h
    | some ob => rw [a.get h1]; rw [h1] at h; exact h
  | _ => exact h
theorem KT.pre {s s1 : Sto} {d : D} (h : KT s d) (a : Pre s s1) : KT s1 d := by
  obtain ⟨⟨t, h1⟩, h2⟩ := h
  refine ⟨⟨t, ty_pre a h1⟩, fun ds e x hx => ?_⟩
  obtain ⟨t, h3⟩ := h2 ds e x hx
  exact ⟨t, ty_pre a h3⟩
end DL
end
/-! ### G1 -/
section
set_option linter.all false
set_option maxRecDepth 100000
set_option maxHeartbeats 4000000
/-! G1: disks: what a disk holds, where it stands; what keeps other things. -/
namespace DL
open PySem PySem.Spec L2
open PyProof.Rows hiding St
/-- a thing for a cell -/
def ThD (d : D) : Prop := d = .tup [] ∨ ∃ a b c : Int, d = .tup [.int a, .int b, .int c] ∧ (0 ≤ a ∧ a ≤ 1000000) ∧ (0 ≤ b ∧ b ≤ 1000000) ∧ (0 ≤ c ∧ c ≤ 1000000)
structure Dst where
  ly : List D
  wt : List (List D)
  pw : Option Int
  rc : Int
def pwD : Option Int → D
  | none => .non
  | some i => .int i
structure Dst.Ok (n : Nat) (S : Dst) : Prop where
  n0 : 1 ≤ n
  n1 : n ≤ 2000
  ly : S.ly.length = n
  wt : S.wt.length = n
  tl : ∀ x ∈ S.ly, ThD x
  tw : ∀ q ∈ S.wt, (∀ x ∈ q, ThD x) ∧ q.length ≤ 1000
  pw : ∀ i, S.pw = some i → 0 ≤ i
/-- all but F stays -/
def Kp (F : List Nat) (s s' : Sto) : Prop := s.length ≤ s'.length ∧ ∀ k, k < s.length → k ∉ F → s'[k]? = s[k]?
theorem Kp.refl {F : List Nat} {s : Sto} : Kp F s s := ⟨Nat.le_refl _, fun _ _ _ => rfl⟩
theorem Kp.get {F : List Nat} {s s' : Sto} (h : Kp F s s') {k : Nat} {ob : Ob} (e : s[k]? = some ob) (hk : k ∉ F) : s'[k]? = some ob := by rw [h.2 k (len_of e) hk, e]
theorem Kp.trans {F G : List Nat} {s s1 s2 : Sto} (a : Kp F s s1) (b : Kp G s1 s2) (h : ∀ k ∈ G, k ∈ F ∨ s.length ≤ k) : Kp F s s2 :=
  ⟨Nat.le_trans a.1 b.1, fun k hk hF => (b.2 k (Nat.lt_of_lt_of_le hk a.1) fun hG => (h k hG).elim hF fun q => absurd hk (by omega)).trans (a.2 k hk hF)⟩
theorem Kp.set {F : List Nat} {s s1 : Sto} (a : Kp F s s1) {n : Nat} {ob : Ob} (hn : n ∈ F ∨ s.length ≤ n) : Kp F s (s1.set n ob) :=
  ⟨by simp; exact a.1, fun k hk hF => by
    have hne : n ≠ k := fun e => by
      subst e
      rcases hn with q | q
      · exact hF q
      · omega
    rw [List.getElem?_set_ne hne]
    exact a.2 k hk hF⟩
theorem Kp.push {F : List Nat} {s s1 : Sto} (a : Kp F s s1) {q : Sto} : Kp F s (s1 ++ q) :=
  ⟨by simp; have := a.1; omega, fun k hk hF => by rw [List.getElem?_append_left (Nat.lt_of_lt_of_le hk a.1)]; exact a.2 k hk hF⟩
theorem Kp.mono {F G : List Nat} {s s1 : Sto} (a : Kp F s s1) (h : ∀ k ∈ F, k ∈ G) : Kp G s s1 := ⟨a.1, fun k hk hG => a.2 k hk fun hF => hG (h k hF)⟩
theorem Kp.hs {F : List Nat} {s s1 : Sto} (a : Kp F s s1) (h : HS s) (h1 : 1 ∉ F) (h2 : 2 ∉ F) : HS s1 := by
  obtain ⟨cells, i, x, y, c, e1, e2, hi⟩ := h
  exact ⟨cells, i, x, y, c, a.get e1 h1, a.get e2 h2, hi⟩
theorem Ext.kp {s s1 : Sto} (a : Ext s s1) : Kp [2] s s1 := ⟨a.1, fun k hk h2 => a.2 k (by simpa using h2) hk⟩
theorem get_set_ne {s : Sto} {n k : Nat} {ob ob' : Ob} (e : s[k]? = some ob) (h : n ≠ k) : (s.set n ob')[k]? = some ob := by rw [List.getElem?_set_ne h]; exact e
theorem get_set_eq {s : Sto} {n : Nat} {ob ob' : Ob} (e : s[n]? = some ob) : (s.set n ob')[n]? = some ob' := by
  rw [List.getElem?_set_self (len_of e)]
theorem get_push {s q : Sto} {k : Nat} {ob : Ob} (e : s[k]? = some ob) : (s ++ q)[k]? = some ob := by rw [List.getElem?_append_left (len_of e)]; exact e
/-! ### a disk -/
abbrev kqD (q : List (Nat × Nat)) : List (Key × D) := q.map fun x => ((Sum.inl (x.1 : Int) : Key), D.loc x.2)
abbrev insD (l w : Nat) (S : Dst) : List (Str × D) := [("kept_lying", .loc l), ("kept_waiting", .loc w), ("kept_power", pwD S.pw), ("kept_reached", .int S.rc)]
structure DkAt (A : Str → Addr) (s : Sto) (d l w : Nat) (q : List (Nat × Nat)) (S : Dst) : Prop where
  ob : s[d]? = some (.ins (A "Disk") (insD l w S))
  ly : s[l]? = some (.lst S.ly)
  wt : s[w]? = some (.dct (kqD q))
  nd : (q.map (·.1)).Nodup
  ks : ∀ c, c ∈ q.map (·.1) ↔ ∃ t r, S.wt[c]? = some (t :: r)
  qs : ∀ x ∈ q, x.2 ≠ l ∧ ∃ z, S.wt[x.1]? = some z ∧ s[x.2]? = some (.lst z)
abbrev fpD (d l w : Nat) (q : List (Nat × Nat)) : List Nat := d :: l :: w :: q.map (·.2)
def Dk (A : Str → Addr) (s : Sto) (d : Nat) (S : Dst) (F : List Nat) : Prop := ∃ l w q, F = fpD d l w q ∧ DkAt A s d l w q S
theorem Dk.keep {A : Str → Addr} {s s' : Sto} {d : Nat} {S : Dst} {F G : List Nat} (h : Dk A s d S F) (k : Kp G s s') (hd : ∀ x ∈ F, x ∉ G) : Dk A s' d S F := by
  obtain ⟨l, w, q, rfl, h⟩ := h
  refine ⟨l, w, q, rfl, k.get h.ob (hd _ (by simp)), k.get h.ly (hd _ (by simp)), k.get h.wt (hd _ (by simp)), h.nd, h.ks, fun x hx => ?_⟩
  obtain ⟨h1, z, h2, h3⟩ := h.qs x hx
  exact ⟨h1, z, h2, k.get h3 (hd _ (by simp; exact .inr (.inr (.inr ⟨x.1, hx⟩))))⟩
theorem Dk.lt {A : Str → Addr} {s : Sto} {d : Nat} {S : Dst} {F : List Nat} (h : Dk A s d S F) : ∀ x ∈ F, x < s.length := by
  obtain ⟨l, w, q, rfl, h⟩ := h
  intro x hx
  simp only [fpD, List.mem_cons, List.mem_map] at hx
  rcases hx with rfl | rfl | rfl | ⟨y, hy, rfl⟩
  · exact len_of h.ob
  · exact len_of h.ly
  · exact len_of h.wt
  · obtain ⟨_, z, _, h3⟩ := h.qs y hy
    exact len_of h3
/-! ### an account -/
abbrev acD (l w : Nat) (S : Dst) : List (Key × D) := [(.inr "lying", .loc l), (.inr "waiting", .loc w), (.inr "power", pwD S.pw), (.inr "reached", .int S.rc)]
structure AcAt (s : Sto) (a l w : Nat) (p : List Nat) (S : Dst) : Prop where
  ob : s[a]? = some (.dct (acD l w S))
  ly : s[l]? = some (.lst S.ly)
  wt : s[w]? = some (.lst (p.map .loc))
  len : p.length = S.wt.length
  ps : ∀ (i x : Nat), p[i]? = some x → ∃ z, S.wt[i]? = some z ∧ s[x]? = some (.lst z)
  nd : (l :: w :: p).Nodup
def Ac (s : Sto) (a : Nat) (S : Dst) (F : List Nat) : Prop := ∃ l w p, F = a :: l :: w :: p ∧ AcAt s a l w p S
theorem Ac.keep {s s' : Sto} {d : Nat} {S : Dst} {F G : List Nat} (h : Ac s d S F) (k : Kp G s s') (hd : ∀ x ∈ F, x ∉ G) : Ac s' d S F := by
  obtain ⟨l, w, p, rfl, h⟩ := h
  refine ⟨l, w, p, rfl, k.get h.ob (hd _ (by simp)), k.get h.ly (hd _ (by simp)), k.get h.wt (hd _ (by simp)), h.len, fun i x hx => ?_, h.nd⟩
  obtain ⟨z, h2, h3⟩ := h.ps i x hx
  exact ⟨z, h2, k.get h3 (hd _ (by simp; exact .inr (.inr (.inr (List.mem_of_getElem? hx)))))⟩
theorem Ac.lt {s : Sto} {d : Nat} {S : Dst} {F : List Nat} (h : Ac s d S F) : ∀ x ∈ F, x < s.length := by
  obtain ⟨l, w, p, rfl, h⟩ := h
  intro x hx
  simp only [List.mem_cons] at hx
  rcases hx with rfl | rfl | rfl | hy
  · exact len_of h.ob
  · exact len_of h.ly
  · exact len_of h.wt
  · obtain ⟨i, hi⟩ := List.getElem?_of_mem hy
    obtain ⟨z, _, h3⟩ := h.ps i x hi
    exact len_of h3
/-! ### what disks look at -/
theorem lk_ly {l w : Nat} {S : Dst} : List.lookup ("kept_lying" : Str) (insD l w S) = some (.loc l) := rfl
theorem lk_wt {l w : Nat} {S : Dst} : List.lookup ("kept_waiting" : Str) (insD l w S) = some (.loc w) := rfl
theorem lk_pw {l w : Nat} {S : Dst} : List.lookup ("kept_power" : Str) (insD l w S) = some (pwD S.pw) := rfl
theorem lk_rc {l w : Nat} {S : Dst} : List.lookup ("kept_reached" : Str) (insD l w S) = some (.int S.rc) := rfl
theorem lk_m {l w : Nat} {S : Dst} {x : Str} (h : x ≠ "kept_lying" ∧ x ≠ "kept_waiting" ∧ x ≠ "kept_power" ∧ x ≠ "kept_reached") : List.lookup x (insD l w S) = none := by
  simp [List.lookup, beq_eq_false_iff_ne.mpr h.1, beq_eq_false_iff_ne.mpr h.2.1, beq_eq_false_iff_ne.mpr h.2.2.1, beq_eq_false_iff_ne.mpr h.2.2.2]
theorem lk_dk {l w : Nat} {S : Dst} {x : Str} (h : x ≠ "kept_lying" ∧ x ≠ "kept_waiting" ∧ x ≠ "kept_power" ∧ x ≠ "kept_reached") : ∀ (a : Str) (b : D), (a, b) ∈ insD l w S → ¬ x = a := by
  intro a b hm e
  subst e
  simp only [insD, List.mem_cons, Prod.mk.injEq, List.not_mem_nil, or_false] at hm
  rcases hm with ⟨e, _⟩ | ⟨e, _⟩ | ⟨e, _⟩ | ⟨e, _⟩
  · exact h.1 e
  · exact h.2.1 e
  · exact h.2.2.1 e
  · exact h.2.2.2 e
theorem check_cell_ok (A : Str → Addr) {s : Sto} {d n c : Nat} {S : Dst} {F : List Nat} (h : Dk A s d S F) (o : S.Ok n) (hc : c < n) : l_Disk_check_cell A [.loc d, .int (c : Int)] s = .ok .non s := by
  obtain ⟨l, w, q, rfl, h⟩ := h
  apply RW.eq
  unfold l_Disk_check_cell
  simp
  refine ⟨_, _, h.ob, rfl, _, lk_ly, ?_⟩
  simp [gLen_lst h.ly, o.ly, within_int, truB]
  omega
theorem notin_03 {x : Int} {s : Sto} (h : x = 0 ∨ x = 3) : gNotIn (.int x) (.tup [.int 0, .int 3]) s = some (.bl false, s) := by
  rcases h with rfl | rfl <;> simp [gNotIn, inB, itS, itL, flatD, eqF]
theorem is_thing_ok (A : Str → Addr) {s : Sto} {t : D} (h : ThD t) : l_is_thing A [t] s = .ok (.bl true) s := by
  apply RW.eq
  unfold l_is_thing
  have fin : ∀ {es : List D} {r : Env}, r.length = 2 → (∀ e ∈ es, ∃ x : Int, e = .int x ∧ 0 ≤ x ∧ x ≤ 1000000) → es.length ≤ 3 → RW (mLcGo [] (mgName 1) mYes (mCall (l_is_within A) (mCons (mVar 1) (mCons (mC (D.int 0)) (mCons (mC (D.int 1000000)) mNil)))) r es s []) fun ds s1 => gAll ds = some (D.bl true) ∧ s1 = s := by
    intro es r hr hx hl
    refine lc_rw (f := fun e => .bl (inR 0 1000000 e)) (b := fun _ => true) rfl (small24 (by omega)) ?_ ?_
    · intro e he
      obtain ⟨x, rfl, h0, h1⟩ := hx e he
      simp [hr, within_int, inR]
    · rw [List.filter_eq_self.mpr fun _ _ => rfl]
      have e1 : es.map (fun e => D.bl (inR 0 1000000 e)) = (es.map (inR 0 1000000)).map .bl := by rw [List.map_map]; rfl
      rw [e1, all_bls]
      have e2 : (es.map (inR 0 1000000)).all id = true := by
        rw [List.all_map]
        exact List.all_eq_true.mpr fun e he => by
          obtain ⟨x, rfl, h0, h1⟩ := hx e he
          simp [inR, h0, h1]
      rw [e2]
      exact ⟨rfl, rfl⟩
  rcases h with rfl | ⟨a, b, c, rfl, ha, hb, hc⟩
  · simp
    refine ⟨small24 (by omega), ?_⟩
    rw [notin_03 (.inl rfl)]
    simp
    exact ⟨[], [], ⟨rfl, rfl⟩, fin rfl (by simp) (by simp)⟩
  · simp
    refine ⟨small24 (by omega), ?_⟩
    rw [notin_03 (.inr rfl)]
    simp
    refine fin rfl ?_ (by simp)
    intro e he
    simp at he
    rcases he with rfl | rfl | rfl
    · exact ⟨_, rfl, ha⟩
    · exact ⟨_, rfl, hb⟩
    · exact ⟨_, rfl, hc⟩
end DL
end
/-! ### G2 -/
section
set_option linter.all false
set_option maxRecDepth 100000
set_option maxHeartbeats 4000000
/-! G2: what waits, by cell; Disk.write. -/
namespace DL
open PySem PySem.Spec L2
open PyProof.Rows hiding St
def putQ (q : List (Nat × Nat)) (c x : Nat) : List (Nat × Nat) := if c ∈ q.map (·.1) then q.map (fun y => if y.1 = c then (y.1, x) else y) else q ++ [(c, x)]
def dropQ (q : List (Nat × Nat)) (c : Nat) : List (Nat × Nat) := q.filter fun y => decide (y.1 ≠ c)
theorem key_eq {a b : Nat} : ((Sum.inl (a : Int) : Key) = Sum.inl (b : Int)) ↔ a = b := by
  constructor
  · intro h
    have := Sum.inl.inj h
    omega
  · intro h; rw [h]
theorem dPut_kq (q : List (Nat × Nat)) (c x : Nat) : dPut (kqD q) (.inl (c : Int)) (.loc x) = kqD (putQ q c x) := by
  unfold dPut putQ
  have e : ((kqD q).any fun kv => decide (kv.1 = .inl (c : Int))) = true ↔ c ∈ q.map (·.1) := by
    simp only [kqD, List.any_map, List.any_eq_true, Function.comp, decide_eq_true_eq, key_eq, List.mem_map]
  by_cases h : c ∈ q.map (·.1)
  · rw [if_pos (e.mpr h), if_pos h]
    simp only [kqD, List.map_map]
    apply List.map_congr_left
    intro y hy
    by_cases h1 : y.1 = c
    · simp [Function.comp, h1]
    · have h2 : ¬ (y.1 : Int) = (c : Int) := by omega
      simp [Function.comp, h1, h2]
  · rw [if_neg (fun h2 => h (e.mp h2)), if_neg h]
    simp [kqD]
theorem dDrop_kq (q : List (Nat × Nat)) (c : Nat) : dDrop (kqD q) (.inl (c : Int)) = kqD (dropQ q c) := by
  unfold dDrop dropQ kqD
  rw [List.filter_map]
  congr 1
  apply List.filter_congr
  intro y _
  simp only [Function.comp, ne_eq, key_eq]
theorem dGet_kq {q : List (Nat × Nat)} {c x : Nat} (hn : (q.map (·.1)).Nodup) (h : (c, x) ∈ q) : dGet (kqD q) (.inl (c : Int)) = some (.loc x) := by
  induction q with
  | nil => cases h
  | cons y q ih =>
    simp only [List.map_cons, List.nodup_cons] at hn
    rcases List.mem_cons.mp h with rfl | h
    · simp [dGet, kqD]
    · have hne : ¬ y.1 = c := fun e => hn.1 (by rw [e]; exact List.mem_map.mpr ⟨_, h, rfl⟩)
      have hne2 : ¬ (y.1 : Int) = (c : Int) := by omega
      have := ih hn.2 h
      unfold dGet at this ⊢
      simpa [hne2, kqD] using this
theorem dGet_kq0 {q : List (Nat × Nat)} {c : Nat} (h : c ∉ q.map (·.1)) : dGet (kqD q) (.inl (c : Int)) = none := by
  unfold dGet
  rw [Option.map_eq_none_iff, List.find?_eq_none]
  intro kv hkv
  obtain ⟨y, hy, rfl⟩ := List.mem_map.mp hkv
  simp only [decide_eq_true_eq, key_eq]
  exact fun e => h (List.mem_map.mpr ⟨y, hy, e⟩)
theorem mem_putQ {q : List (Nat × Nat)} {c x : Nat} {y : Nat × Nat} (h : y ∈ putQ q c x) : y = (c, x) ∨ (y ∈ q ∧ y.1 ≠ c) := by
  unfold putQ at h
  split at h
  · obtain ⟨z, hz, rfl⟩ := List.mem_map.mp h
    by_cases e : z.1 = c
    · left; simp [e]
    · right; simp [e]; exact hz
  · rename_i hc
    rcases List.mem_append.mp h with h | h
    · exact .inr ⟨h, fun e => hc (List.mem_map.mpr ⟨y, h, e⟩)⟩
    · exact .inl (List.mem_singleton.mp h)
theorem keys_putQ {q : List (Nat × Nat)} {c x : Nat} : (putQ q c x).map (·.1) = if c ∈ q.map (·.1) then q.map (·.1) else q.map (·.1) ++ [c] := by
  unfold putQ
  split
  · rw [List.map_map]
    apply List.map_congr_left
    intro y _
    by_cases h1 : y.1 = c <;> simp [Function.comp, h1]
  · simp
theorem nodup_putQ {q : List (Nat × Nat)} {c x : Nat} (h : (q.map (·.1)).Nodup) : ((putQ q c x).map (·.1)).Nodup := by
  rw [keys_putQ]
  split
  · exact h
  · rename_i hk
    exact List.nodup_append.mpr ⟨h, by simp, fun a ha b hb e => by rw [List.mem_singleton.mp hb] at e; exact hk (e ▸ ha)⟩
theorem mem_keys_putQ {q : List (Nat × Nat)} {c x a : Nat} : a ∈ (putQ q c x).map (·.1) ↔ a = c ∨ a ∈ q.map (·.1) := by
  rw [keys_putQ]
  split
  · rename_i h
    constructor
    · exact .inr
    · rintro (rfl | h2)
      · exact h
      · exact h2
  · simp only [List.mem_append, List.mem_singleton]
    exact or_comm
theorem keys_dropQ {q : List (Nat × Nat)} {c : Nat} : (dropQ q c).map (·.1) = (q.map (·.1)).filter fun a => decide (a ≠ c) := by
  unfold dropQ
  rw [List.filter_map]
  rfl
theorem mem_keys_dropQ {q : List (Nat × Nat)} {c a : Nat} : a ∈ (dropQ q c).map (·.1) ↔ a ∈ q.map (·.1) ∧ a ≠ c := by
  rw [keys_dropQ, List.mem_filter]
  simp
/-- a thing more waits -/
def Dst.put (S : Dst) (c : Nat) (t : D) : Dst := { S with wt := S.wt.set c ((S.wt.getD c []) ++ [t]) }
theorem getD_of {α : Type} {xs : List α} {i : Nat} {x d : α} (h : xs[i]? = some x) : xs.getD i d = x := by simp [List.getD_eq_getElem?_getD, h]
theorem Dst.Ok.put {n c : Nat} {S : Dst} {t : D} (o : S.Ok n) (ht : ThD t) (hl : (S.wt.getD c []).length < 1000) : (S.put c t).Ok n where
  n0 := o.n0
  n1 := o.n1
  ly := o.ly
  wt := by simp [Dst.put, o.wt]
  tl := o.tl
  tw := fun q hq => by
    rcases List.mem_or_eq_of_mem_set hq with h | rfl
    · exact o.tw q h
    · refine ⟨fun x hx => ?_, by rw [List.length_append, List.length_singleton]; omega⟩
      rcases List.mem_append.mp hx with h | h
      · by_cases hc : c < S.wt.length
        · rw [getD_of (List.getElem?_eq_getElem hc)] at h
          exact (o.tw _ (List.getElem_mem hc)).1 x h
        · rw [List.getD_eq_getElem?_getD, List.getElem?_eq_none (by omega)] at h
          cases h
      · rw [List.mem_singleton.mp h]; exact ht
  pw := o.pw
theorem kvs_of {s : Sto} {w : Nat} {kvs : List (Key × D)} (h : s[w]? = some (.dct kvs)) : kvsOf s w = some kvs := by simp [kvsOf, h]
theorem gSet_dctI {s : Sto} {w : Nat} {q : List (Nat × Nat)} {c x : Nat} (h : s[w]? = some (.dct (kqD q))) (hl : q.length < sizeLine) : gSet (.loc w) (.int (c : Int)) (.loc x) s = some (s.set w (.dct (kqD (putQ q c x)))) := by
  simp only [gSet, h, keyD, Option.bind_some]
  rw [if_pos (by rw [List.length_map]; exact hl), dPut_kq]
theorem qlen {n : Nat} {q : List (Nat × Nat)} (nd : (q.map (·.1)).Nodup) (h : ∀ c ∈ q.map (·.1), c < n) : q.length ≤ n := by
  have := pigeon n _ nd h
  simpa using this
theorem DkAt.few {A : Str → Addr} {s : Sto} {d l w n : Nat} {q : List (Nat × Nat)} {S : Dst} (h : DkAt A s d l w q S) (o : S.Ok n) : q.length ≤ n := by
  refine qlen h.nd fun c hc => ?_
  obtain ⟨t, r, e⟩ := (h.ks c).mp hc
  have := (List.getElem?_eq_some_iff.mp e).1
  rw [o.wt] at this
  exact this
theorem DkAt.dl {A : Str → Addr} {s : Sto} {d l w : Nat} {q : List (Nat × Nat)} {S : Dst} (h : DkAt A s d l w q S) : d ≠ l := fun e => by
  have h1 := h.ob
  rw [e, h.ly] at h1
  cases h1
theorem DkAt.dw {A : Str → Addr} {s : Sto} {d l w : Nat} {q : List (Nat × Nat)} {S : Dst} (h : DkAt A s d l w q S) : d ≠ w := fun e => by
  have h1 := h.ob
  rw [e, h.wt] at h1
  cases h1
theorem DkAt.lw {A : Str → Addr} {s : Sto} {d l w : Nat} {q : List (Nat × Nat)} {S : Dst} (h : DkAt A s d l w q S) : l ≠ w := fun e => by
  have h1 := h.ly
  rw [e, h.wt] at h1
  cases h1
theorem DkAt.qd {A : Str → Addr} {s : Sto} {d l w : Nat} {q : List (Nat × Nat)} {S : Dst} (h : DkAt A s d l w q S) {x : Nat × Nat} (hx : x ∈ q) : x.2 ≠ d ∧ x.2 ≠ w := by
  obtain ⟨_, z, _, h3⟩ := h.qs x hx
  refine ⟨fun e => ?_, fun e => ?_⟩
  · rw [e, h.ob] at h3; cases h3
  · rw [e, h.wt] at h3; cases h3
theorem write_spec (A : Str → Addr) {s : Sto} {d n c : Nat} {S : Dst} {F : List Nat} {t : D} (h : Dk A s d S F) (o : S.Ok n) (hc : c < n) (ht : ThD t) (hl : (S.wt.getD c []).length < 1000) :
    RW (l_Disk_write A [.loc d, .int (c : Int), t] s) fun v s' => v = .non ∧ ∃ F', Dk A s' d (S.put c t) F' ∧ Kp F s s' ∧ ∀ k ∈ F', k ∈ F ∨ s.length ≤ k := by
  have hck := check_cell_ok A h o hc
  obtain ⟨l, w, q, hF, h⟩ := h
  have n1 := o.n1
  have hfew := h.few o
  obtain ⟨z, hz⟩ : ∃ z, S.wt[c]? = some z := ⟨_, List.getElem?_eq_getElem (by rw [o.wt]; exact hc)⟩
  have hzl : z.length < 1000 := by rw [getD_of hz] at hl; exact hl
  unfold l_Disk_write
  simp
  refine ⟨_, h.ob, lk_dk (by decide), ?_⟩
  rw [hck, RW_ok, is_thing_ok A ht, RW_ok]
  refine ⟨rfl, _, _, h.ob, rfl, _, lk_wt, w, rfl, by rw [kvs_of h.wt]; rfl, kqD q, kvs_of (get_push h.wt), _, rfl, one_le_size, ?_⟩
  have key : ∃ x0, (dGet (kqD q) (.inl (c : Int))).getD (.loc s.length) = .loc x0 ∧ (s ++ [Ob.lst [], Ob.lst [t]])[x0]? = some (.lst z) := by
    by_cases hk : c ∈ q.map (·.1)
    · obtain ⟨x, hx, hx1⟩ := List.mem_map.mp hk
      obtain ⟨_, z', hz', hs⟩ := h.qs x hx
      rw [hx1, hz] at hz'
      cases hz'
      refine ⟨x.2, ?_, get_push hs⟩
      rw [dGet_kq h.nd (show (c, x.2) ∈ q by rw [← hx1]; exact hx)]
      rfl
    · refine ⟨s.length, by rw [dGet_kq0 hk]; rfl, ?_⟩
      have : z = [] := by
        cases z with
        | nil => rfl
        | cons a r => exact absurd ((h.ks c).mpr ⟨a, r, hz⟩) hk
      subst this
      simp
  obtain ⟨x0, e1, e2⟩ := key
  have e3 : (s ++ [Ob.lst [], Ob.lst [t]])[s.length + 1]? = some (.lst [t]) := by rw [List.getElem?_append_right (by omega), Nat.add_sub_cancel_left]; rfl
  rw [e1, gAdd_rows e2 e3 (small24 (by simp; omega))]
  simp only [RW_of_some]
  have e4 : (s ++ [Ob.lst [], Ob.lst [t]] ++ [Ob.lst (z ++ [t])]) = s ++ [Ob.lst [], Ob.lst [t], Ob.lst (z ++ [t])] := by simp
  have e5 : (s ++ [Ob.lst [], Ob.lst [t]]).length = s.length + 2 := by simp
  rw [e4, e5]
  refine ⟨_, _, get_push h.ob, rfl, _, lk_wt, _, gSet_dctI (get_push h.wt) (by rw [sizeLine_eq]; omega), fpD d l w (putQ q c (s.length + 2)), ?_, ?_, ?_⟩
  · have hw := h.wt
    have up : ∀ {k : Nat} {ob : Ob}, s[k]? = some ob → k ≠ w → ((s ++ [Ob.lst [], Ob.lst [t], Ob.lst (z ++ [t])]).set w (.dct (kqD (putQ q c (s.length + 2)))))[k]? = some ob := fun e hk => get_set_ne (get_push e) (Ne.symm hk)
    refine ⟨l, w, _, rfl, up h.ob h.dw, up h.ly h.lw, get_set_eq (get_push hw), nodup_putQ h.nd, fun a => ?_, fun x hx => ?_⟩
    · rw [mem_keys_putQ]
      show _ ↔ ∃ t' r, (S.wt.set c _)[a]? = some (t' :: r)
      by_cases ha : a = c
      · subst ha
        rw [List.getElem?_set_self (by rw [o.wt]; exact hc), getD_of hz]
        constructor
        · intro _
          cases z with
          | nil => exact ⟨t, [], rfl⟩
          | cons b r => exact ⟨b, r ++ [t], rfl⟩
        · intro _; exact .inl rfl
      · rw [List.getElem?_set_ne (Ne.symm ha), ← h.ks a]
        constructor
        · rintro (e | e)
          · exact absurd e ha
          · exact e
        · exact .inr
    · rcases mem_putQ hx with rfl | ⟨hx, hne⟩
      · have hlt := len_of h.ly
        have hlw := len_of h.wt
        refine ⟨by show s.length + 2 ≠ l; omega, z ++ [t], ?_, ?_⟩
        · show (S.wt.set c _)[c]? = _
          rw [List.getElem?_set_self (by rw [o.wt]; exact hc), getD_of hz]
        · show _ = _
          rw [List.getElem?_set_ne (by omega), List.getElem?_append_right (by omega), Nat.add_sub_cancel_left]
          rfl
      · obtain ⟨h1, z', h2, h3⟩ := h.qs x hx
        refine ⟨h1, z', ?_, up h3 (h.qd hx).2⟩
        show (S.wt.set c _)[x.1]? = _
        rw [List.getElem?_set_ne (Ne.symm hne)]
        exact h2
  · subst hF
    exact Kp.refl.push.set (.inl (by simp))
  · subst hF
    intro k hk
    simp only [fpD, List.mem_cons, List.mem_map] at hk ⊢
    rcases hk with rfl | rfl | rfl | ⟨x, hx, rfl⟩
    · simp
    · simp
    · simp
    · rcases mem_putQ hx with rfl | ⟨hx, hne⟩
      · right; show s.length ≤ s.length + 2; omega
      · exact .inl (.inr (.inr (.inr ⟨x, hx, rfl⟩)))
end DL
end
/-! ### G3 -/
section
set_option linter.all false
set_option maxRecDepth 100000
set_option maxHeartbeats 4000000
/-! G3: a write reaches. -/
namespace DL
open PySem PySem.Spec L2
open PyProof.Rows hiding St
/-- the eldest write of a cell reaches -/
def Dst.one (S : Dst) (c : Nat) : Dst := ⟨S.ly.set c ((S.wt.getD c []).headD (.tup [])), S.wt.set c (S.wt.getD c []).tail, S.pw.map fun i => i - 1, S.rc + 1⟩
theorem Dst.Ok.one {n c : Nat} {S : Dst} (o : S.Ok n) (hp : S.pw ≠ some 0) (hw : S.wt.getD c [] ≠ []) : (S.one c).Ok n := by
  have hc : c < S.wt.length := by
    apply Classical.byContradiction
    intro h
    rw [List.getD_eq_getElem?_getD, List.getElem?_eq_none (by omega)] at hw
    exact hw rfl
  obtain ⟨t, r, e⟩ : ∃ t r, S.wt[c] = t :: r := by
    rw [getD_of (List.getElem?_eq_getElem hc)] at hw
    cases h : S.wt[c] with
    | nil => exact absurd h hw
    | cons t r => exact ⟨t, r, rfl⟩
  have e2 : S.wt.getD c [] = t :: r := by rw [getD_of (List.getElem?_eq_getElem hc), e]
  have hT := o.tw _ (List.getElem_mem hc)
  rw [e] at hT
  constructor
  · exact o.n0
  · exact o.n1
  · simp [Dst.one, o.ly]
  · simp [Dst.one, o.wt]
  · intro x hx
    rcases List.mem_or_eq_of_mem_set hx with h | rfl
    · exact o.tl x h
    · rw [e2]; exact hT.1 t (by simp)
  · intro q hq
    rcases List.mem_or_eq_of_mem_set hq with h | rfl
    · exact o.tw q h
    · rw [e2]
      have := hT.2
      simp at this
      exact ⟨fun x hx => hT.1 x (by simp; exact .inr hx), by simp; omega⟩
  · intro i hi
    simp only [Dst.one, Option.map_eq_some_iff] at hi
    obtain ⟨j, hj, rfl⟩ := hi
    have := o.pw j hj
    have : j ≠ 0 := fun e => hp (by rw [hj, e])
    omega
theorem SW_fldaug {op : Int → Int → Int} {cs : List Addr} {f : Str} {mo mv : ME} {r : Env} {s : Sto} {Qn : Env → Sto → Prop} {Qr : D → Sto → Prop} {Qb Qc : Env → Sto → Prop} {n : Nat} {C : Addr} {fs : List (Str × D)} {i j : Int}
    (h1 : mo r s = .ok (.loc n) s) (h2 : s[n]? = some (.ins C fs)) (h3 : fs.lookup f = some (.int i)) (h4 : C ∈ cs) (h5 : mv r s = .ok (.int j) s) (h6 : fs.length < 1000) (q : Qn r (s.set n (.ins C (putD f (.int (op i j)) fs)))) :
    SW (mFldAug op cs f mo mv r s) Qn Qr Qb Qc := by
  unfold mFldAug
  rw [h1]
  dsimp only
  rw [h2]
  dsimp only
  rw [h3]
  dsimp only
  rw [if_pos h4, h5]
  dsimp only
  rw [h2]
  dsimp only
  rw [if_pos ⟨rfl, h6⟩]
  exact q
theorem RW_dpop {mo mk : ME} {r : Env} {s : Sto} {Q : D → Sto → Prop} {n : Nat} {kvs : List (Key × D)} {kd v : D} {k : Key} (h1 : mo r s = .ok (.loc n) s) (h2 : s[n]? = some (.dct kvs)) (h3 : mk r s = .ok kd s) (h4 : keyD kd = some k) (h5 : dGet kvs k = some v)
    (q : Q v (s.set n (.dct (dDrop kvs k)))) : RW (mDPop1 mo mk r s) Q := by
  unfold mDPop1
  rw [h1]
  simp only [R.bind_ok, h2, h3, h4, h5]
  exact q
theorem fld_eq {C : Addr} {f : Str} {s : Sto} {r : Env} {i n : Nat} {fs : List (Str × D)} {v : D} (hr : r[i]? = some (some (.loc n))) (h1 : s[n]? = some (.ins C fs)) (h2 : fs.lookup f = some v) : mFld [C] f (mVar i) r s = .ok v s := by
  simp [mFld, mVar, hr, h1, h2]
theorem putD_pw {l w : Nat} {S : Dst} {v : Option Int} : putD "kept_power" (pwD v) (insD l w S) = insD l w { S with pw := v } := by
  simp [putD, insD, show ¬ Str.ofString "kept_lying" = Str.ofString "kept_power" from by decide, show ¬ Str.ofString "kept_waiting" = Str.ofString "kept_power" from by decide]
theorem putD_rc {l w : Nat} {S : Dst} {v : Int} : putD "kept_reached" (.int v) (insD l w S) = insD l w { S with rc := v } := by
  simp [putD, insD, show ¬ Str.ofString "kept_lying" = Str.ofString "kept_reached" from by decide, show ¬ Str.ofString "kept_waiting" = Str.ofString "kept_reached" from by decide, show ¬ Str.ofString "kept_power" = Str.ofString "kept_reached" from by decide]
theorem reach_one_stop (A : Str → Addr) {s : Sto} {d c : Nat} {S : Dst} {F : List Nat} (h : Dk A s d S F) (hp : S.pw = some 0) : l_Disk_reach_one A [.loc d, .int (c : Int)] s = .exc ⟨A "Stopped", none⟩ s := by
  obtain ⟨l, w, q, hF, h⟩ := h
  have e1 : ∀ r : Env, r[0]? = some (some (.loc d)) → mFld [A "Disk"] "kept_power" (mVar 0) r s = .ok (.int 0) s := fun r hr => fld_eq hr h.ob (by rw [lk_pw, hp]; rfl)
  unfold l_Disk_reach_one mDef
  rw [if_pos (show [D.loc d, D.int (c : Int)].length = 2 from rfl)]
  simp [mSeq, mIf, asB, mBin, e1, mC, mRaise]
theorem reach_one_ok (A : Str → Addr) {s : Sto} {d n c : Nat} {S : Dst} {F : List Nat} {t : D} {rs : List D} (h : Dk A s d S F) (o : S.Ok n) (hp : S.pw ≠ some 0) (hw : S.wt[c]? = some (t :: rs)) :
    RW (l_Disk_reach_one A [.loc d, .int (c : Int)] s) fun v s' => v = .non ∧ ∃ F', Dk A s' d (S.one c) F' ∧ Kp F s s' ∧ ∀ k ∈ F', k ∈ F ∨ s.length ≤ k := by
  obtain ⟨l, w, q, hF, h⟩ := h
  have n1 := o.n1
  have hfew := h.few o
  have hcw := (List.getElem?_eq_some_iff.mp hw).1
  have hcn : c < n := by rw [← o.wt]; exact hcw
  have hT := (o.tw _ (List.mem_of_getElem? hw)).2
  have hl := h.ly
  have hw2 := h.wt
  have dl := h.dl
  have dw := h.dw
  have lw := h.lw
  obtain ⟨y, hy, hy1⟩ := List.mem_map.mp ((h.ks c).mpr ⟨t, rs, hw⟩)
  obtain ⟨x0, rfl⟩ : ∃ x0, y = (c, x0) := ⟨y.2, by rw [← hy1]⟩
  obtain ⟨hxl, z', hz', hx⟩ := h.qs _ hy
  have hxd := h.qd hy
  rw [hw] at hz'
  cases hz'
  unfold l_Disk_reach_one
  rw [RW_def]
  refine ⟨rfl, ?_⟩
  rw [SW_seq]
  refine SW.midr (fun r s1 => r = [some (.loc d), some (.int (c : Int)), none] ∧ s1[d]? = some (.ins (A "Disk") (insD l w { S with pw := S.pw.map fun i => i - 1 })) ∧ s1.length = s.length ∧ ∀ k, k ≠ d → s1[k]? = s[k]?) ?_ ?_
  · have hob := h.ob
    rw [SW_if]
    cases hq : S.pw with
    | none =>
      have e1 : mFld [A "Disk"] "kept_power" (mVar 0) [some (.loc d), some (.int (c : Int)), none] s = .ok .non s := fld_eq rfl hob (by rw [lk_pw, hq]; rfl)
      simp [e1]
      rw [hob]
      simp [insD, hq]
    | some i =>
      have e1 : mFld [A "Disk"] "kept_power" (mVar 0) [some (.loc d), some (.int (c : Int)), none] s = .ok (.int i) s := fld_eq rfl hob (by rw [lk_pw, hq]; rfl)
      have hi : i ≠ 0 := fun e => hp (by rw [hq, e])
      simp [e1, hi]
      refine ⟨_, _, hob, rfl, .int i, by rw [lk_pw, hq]; rfl, ?_⟩
      simp [hi]
      refine SW_fldaug (n := d) (C := A "Disk") (fs := insD l w S) (i := i) (j := 1) rfl hob (by rw [lk_pw, hq]; rfl) (List.mem_singleton.mpr rfl) rfl (show 4 < 1000 by decide) ?_
      have e2 : putD "kept_power" (D.int (i - 1)) (insD l w S) = insD l w { S with pw := some (i - 1) } := putD_pw (v := some (i - 1))
      rw [e2]
      exact ⟨rfl, get_set_eq hob, by simp, fun k hk => List.getElem?_set_ne (Ne.symm hk)⟩
  rintro r s1 ⟨hr, h1, hlen, hk1⟩
  rw [hr]
  have g : ∀ {k : Nat} {ob : Ob}, s[k]? = some ob → k ≠ d → s1[k]? = some ob := fun e hk => by rw [hk1 _ hk]; exact e
  rw [SW_seq, SW_asg]
  refine RW_dpop (n := w) (kvs := kqD q) (kd := .int (c : Int)) (k := .inl (c : Int)) (v := .loc x0) (fld_eq rfl h1 rfl) (g hw2 (Ne.symm dw)) rfl rfl (dGet_kq h.nd hy) ?_
  rw [RW_gName, dDrop_kq]
  rw [SW_seq]
  generalize hs2 : s1.set w (.dct (kqD (dropQ q c))) = s2
  have h2d : s2[d]? = some (.ins (A "Disk") (insD l w { S with pw := S.pw.map fun i => i - 1 })) := by rw [← hs2]; exact get_set_ne h1 (Ne.symm dw)
  have h2w : s2[w]? = some (.dct (kqD (dropQ q c))) := by rw [← hs2]; exact get_set_eq (g hw2 (Ne.symm dw))
  have g2 : ∀ {k : Nat} {ob : Ob}, s[k]? = some ob → k ≠ d → k ≠ w → s2[k]? = some ob := fun e hk hk2 => by rw [← hs2]; exact get_set_ne (g e hk) (Ne.symm hk2)
  have l2 : s2.length = s.length := by rw [← hs2]; simp [hlen]
  have hx2 := g2 hx hxd.1 hxd.2
  have hl2 := g2 hl (Ne.symm dl) lw
  simp
  rw [gIx_lst hx2]
  simp
  refine ⟨_, _, h2d, rfl, _, lk_ly, _, gSet_lst hl2 (ixN_nn (by omega) (by rw [o.ly]; omega)), ?_⟩
  simp only [Int.toNat_natCast]
  generalize hs3 : s2.set l (.lst (S.ly.set c t)) = s3
  have h3d : s3[d]? = some (.ins (A "Disk") (insD l w { S with pw := S.pw.map fun i => i - 1 })) := by rw [← hs3]; exact get_set_ne h2d (Ne.symm dl)
  have h3l : s3[l]? = some (.lst (S.ly.set c t)) := by rw [← hs3]; exact get_set_eq hl2
  have h3w : s3[w]? = some (.dct (kqD (dropQ q c))) := by rw [← hs3]; exact get_set_ne h2w lw
  have l3 : s3.length = s.length := by rw [← hs3]; simp [l2]
  have g3 : ∀ {k : Nat} {ob : Ob}, s[k]? = some ob → k ≠ d → k ≠ w → k ≠ l → s3[k]? = some ob := fun e hk hk2 hk3 => by rw [← hs3]; exact get_set_ne (g2 e hk hk2) (Ne.symm hk3)
  refine SW_fldaug (n := d) (C := A "Disk") (i := S.rc) (j := 1) rfl h3d rfl (List.mem_singleton.mpr rfl) rfl (show 4 < 1000 by decide) ?_
  rw [putD_rc]
  generalize hs4 : s3.set d (.ins (A "Disk") (insD l w { S with pw := S.pw.map fun i => i - 1, rc := S.rc + 1 })) = s4
  have h4d : s4[d]? = some (.ins (A "Disk") (insD l w (S.one c))) := by rw [← hs4]; exact get_set_eq h3d
  have h4l : s4[l]? = some (.lst (S.ly.set c t)) := by rw [← hs4]; exact get_set_ne h3l dl
  have h4w : s4[w]? = some (.dct (kqD (dropQ q c))) := by rw [← hs4]; exact get_set_ne h3w dw
  have l4 : s4.length = s.length := by rw [← hs4]; simp [l3]
  have g4 : ∀ {k : Nat} {ob : Ob}, s[k]? = some ob → k ≠ d → k ≠ w → k ≠ l → s4[k]? = some ob := fun e hk hk2 hk3 => by rw [← hs4]; exact get_set_ne (g3 e hk hk2 hk3) (Ne.symm hk)
  have hx4 := g4 hx hxd.1 hxd.2 hxl
  have kp4 : Kp F s s4 := by
    refine ⟨by omega, fun k hk hF2 => ?_⟩
    rw [hF] at hF2
    simp only [fpD, List.mem_cons, not_or] at hF2
    obtain ⟨ob, e⟩ : ∃ ob, s[k]? = some ob := ⟨_, List.getElem?_eq_getElem hk⟩
    rw [g4 e hF2.1 hF2.2.2.1 hF2.2.1, e]
  clear hs4 hs3 hs2 hr hk1 g g2 g3
  have ly1 : (S.one c).ly = S.ly.set c t := by simp [Dst.one, hw]
  have wt1 : (S.one c).wt = S.wt.set c rs := by simp [Dst.one, hw]
  have qs1 : ∀ x ∈ dropQ q c, x.2 ≠ l ∧ ∃ z, (S.one c).wt[x.1]? = some z ∧ s4[x.2]? = some (.lst z) := by
    intro x hxq
    obtain ⟨hxq, hne⟩ := List.mem_filter.mp hxq
    obtain ⟨a1, z, a2, a3⟩ := h.qs x hxq
    have a4 := h.qd hxq
    refine ⟨a1, z, ?_, g4 a3 a4.1 a4.2 a1⟩
    rw [wt1, List.getElem?_set_ne (by simpa using Ne.symm (of_decide_eq_true hne))]
    exact a2
  simp
  rw [gLen_lst hx4]
  simp
  by_cases hrs : rs = []
  · subst hrs
    left
    refine ⟨by simp, fpD d l w (dropQ q c), ⟨l, w, _, rfl, h4d, by rw [ly1]; exact h4l, h4w, ?_, fun a => ?_, qs1⟩, kp4, ?_⟩
    · rw [keys_dropQ]; exact h.nd.filter _
    · rw [mem_keys_dropQ, wt1, h.ks a]
      by_cases ha : a = c
      · subst ha
        rw [List.getElem?_set_self hcw]
        simp
      · rw [List.getElem?_set_ne (Ne.symm ha)]
        simp [ha]
    · intro k hk
      left
      rw [hF]
      simp only [fpD, List.mem_cons, List.mem_map] at hk ⊢
      rcases hk with rfl | rfl | rfl | ⟨x, hxq, rfl⟩
      · simp
      · simp
      · simp
      · exact .inr (.inr (.inr ⟨x, (List.mem_filter.mp hxq).1, rfl⟩))
  · right
    refine ⟨by cases rs with
      | nil => exact absurd rfl hrs
      | cons a b => simp; omega, ?_⟩
    have hsl : gSl s4 (.loc x0) (some 1) none = some (.loc s4.length, s4 ++ [.lst rs]) := by
      simp only [gSl, hx4, HT.sIx_none]
      rw [show (some (1 : Int)) = some ((1 : Nat) : Int) from rfl, HT.sIx_nat]
      simp
    rw [hsl]
    simp
    refine ⟨_, _, get_push h4d, rfl, _, lk_wt, _, gSet_dctI (get_push h4w) (by rw [sizeLine_eq]; have : (dropQ q c).length ≤ q.length := List.length_filter_le _ _; omega), fpD d l w (putQ (dropQ q c) c s4.length), ?_, ?_, ?_⟩
    · have up : ∀ {k : Nat} {ob : Ob}, s4[k]? = some ob → k ≠ w → ((s4 ++ [Ob.lst rs]).set w (.dct (kqD (putQ (dropQ q c) c s4.length))))[k]? = some ob := fun e hk => get_set_ne (get_push e) (Ne.symm hk)
      have hll := len_of h4l
      have hlw := len_of h4w
      refine ⟨l, w, _, rfl, up h4d dw, by rw [ly1]; exact up h4l lw, get_set_eq (get_push h4w), nodup_putQ (by rw [keys_dropQ]; exact h.nd.filter _), fun a => ?_, fun x hxq => ?_⟩
      · rw [mem_keys_putQ, mem_keys_dropQ, wt1, h.ks a]
        by_cases ha : a = c
        · subst ha
          rw [List.getElem?_set_self hcw]
          cases rs with
          | nil => exact absurd rfl hrs
          | cons b r => simp
        · rw [List.getElem?_set_ne (Ne.symm ha)]
          simp [ha]
      · rcases mem_putQ hxq with rfl | ⟨hxq, hne⟩
        · refine ⟨by show s4.length ≠ l; omega, rs, by rw [wt1, List.getElem?_set_self hcw], ?_⟩
          show _ = _
          rw [List.getElem?_set_ne (by show w ≠ s4.length; omega)]
          simp
        · obtain ⟨a1, z, a2, a3⟩ := qs1 x hxq
          exact ⟨a1, z, a2, up a3 (h.qd (List.mem_filter.mp hxq).1).2⟩
    · exact (kp4.push).set (.inl (by rw [hF]; simp))
    · intro k hk
      rw [hF]
      simp only [fpD, List.mem_cons, List.mem_map] at hk ⊢
      rcases hk with rfl | rfl | rfl | ⟨x, hxq, rfl⟩
      · simp
      · simp
      · simp
      · rcases mem_putQ hxq with rfl | ⟨hxq, hne⟩
        · right; show s.length ≤ s4.length; omega
        · exact .inl (.inr (.inr (.inr ⟨x, (List.mem_filter.mp hxq).1, rfl⟩)))
end DL
end
/-! ### G4 -/
section
set_option linter.all false
set_option maxRecDepth 100000
set_option maxHeartbeats 4000000
/-! G4: reach, calm. -/
namespace DL
open PySem PySem.Spec L2
open PyProof.Rows hiding St
theorem inB_kq {s : Sto} {w : Nat} {q : List (Nat × Nat)} {c : Nat} (h : s[w]? = some (.dct (kqD q))) (nd : (q.map (·.1)).Nodup) : inB s (.int (c : Int)) (.loc w) = some (decide (c ∈ q.map (·.1))) := by
  have e : itS s (.loc w) = none := by simp [itS, itL, h]
  unfold inB
  rw [e]
  simp only [kvs_of h, Option.bind_some, keyD, Option.map_some]
  congr 1
  by_cases hk : c ∈ q.map (·.1)
  · obtain ⟨x, hx, hx1⟩ := List.mem_map.mp hk
    rw [dGet_kq nd (show (c, x.2) ∈ q by rw [← hx1]; exact hx)]
    simp [hk]
  · rw [dGet_kq0 hk]
    simp [hk]
theorem meth_eq {C : Addr} {x : Str} {f : MF} {mo : ME} {ma : Env → Sto → R (List D)} {r : Env} {s : Sto} {k : Nat} {fs : List (Str × D)} {ds : List D} (h1 : mo r s = .ok (.loc k) s) (h2 : s[k]? = some (.ins C fs)) (h3 : fs.lookup x = none) (h4 : ma r s = .ok ds s) :
    mMeth C x f mo ma r s = f (.loc k :: ds) s := by
  unfold mMeth
  simp [h1, h2, h3, h4]
theorem dk_meth {A : Str → Addr} {s : Sto} {d i : Nat} {S : Dst} {F : List Nat} {x : Str} {f : MF} {ma : Env → Sto → R (List D)} {r : Env} {ds : List D} (h : Dk A s d S F) (hx : x ≠ "kept_lying" ∧ x ≠ "kept_waiting" ∧ x ≠ "kept_power" ∧ x ≠ "kept_reached") (hr : r[i]? = some (some (.loc d))) (h4 : ma r s = .ok ds s) :
    mMeth (A "Disk") x f (mVar i) ma r s = f (.loc d :: ds) s := by
  obtain ⟨l, w, q, hF, h⟩ := h
  exact meth_eq (by simp [mVar, hr]) h.ob (lk_m hx) h4
theorem dk_has {A : Str → Addr} {s : Sto} {d c : Nat} {S : Dst} {F : List Nat} {r : Env} (h : Dk A s d S F) (h0 : r[0]? = some (some (.loc d))) (h1 : r[1]? = some (some (.int (c : Int)))) :
    mBin gIn (mVar 1) (mFld [A "Disk"] "kept_waiting" (mVar 0)) r s = .ok (.bl (decide (S.wt.getD c [] ≠ []))) s ∧ mBin gNotIn (mVar 1) (mFld [A "Disk"] "kept_waiting" (mVar 0)) r s = .ok (.bl (!decide (S.wt.getD c [] ≠ []))) s := by
  obtain ⟨l, w, q, hF, h⟩ := h
  have e1 : mFld [A "Disk"] "kept_waiting" (mVar 0) r s = .ok (.loc w) s := fld_eq h0 h.ob rfl
  have e2 : (c ∈ q.map (·.1)) ↔ S.wt.getD c [] ≠ [] := by
    rw [h.ks c, List.getD_eq_getElem?_getD]
    cases S.wt[c]? with
    | none => simp
    | some z => cases z <;> simp
  have e3 : decide (c ∈ q.map (·.1)) = decide (S.wt.getD c [] ≠ []) := decide_eq_decide.mpr e2
  constructor
  · simp [mBin, mVar, h1, e1, gIn, inB_kq h.wt h.nd, e3]
  · simp [mBin, mVar, h1, e1, gNotIn, inB_kq h.wt h.nd, e3]
theorem getD_cons {S : Dst} {c : Nat} (h : S.wt.getD c [] ≠ []) : ∃ t r, S.wt[c]? = some (t :: r) := by
  rw [List.getD_eq_getElem?_getD] at h
  cases e : S.wt[c]? with
  | none => rw [e] at h; exact absurd rfl h
  | some z =>
    cases z with
    | nil => rw [e] at h; exact absurd rfl h
    | cons t r => exact ⟨t, r, rfl⟩
/-! ### all that waits -/
def Dst.drain : Nat → Dst → Nat → Dst × Bool
  | 0, S, _ => (S, true)
  | k + 1, S, c => if S.pw = some 0 then (S, false) else Dst.drain k (S.one c) c
def Dst.calm : List Nat → Dst → Dst × Bool
  | [], S => (S, true)
  | c :: cs, S => if (S.drain (S.wt.getD c []).length c).2 = true then Dst.calm cs (S.drain (S.wt.getD c []).length c).1 else ((S.drain (S.wt.getD c []).length c).1, false)
theorem one_len {S : Dst} {c : Nat} : ((S.one c).wt.getD c []).length = (S.wt.getD c []).length - 1 := by
  by_cases hc : c < S.wt.length
  · have e : (S.one c).wt.getD c [] = (S.wt.getD c []).tail := by
      show (S.wt.set c _).getD c [] = _
      rw [List.getD_eq_getElem?_getD, List.getElem?_set_self hc]
      rfl
    rw [e, List.length_tail]
  · have e : S.wt.getD c [] = [] := by rw [List.getD_eq_getElem?_getD, List.getElem?_eq_none (by omega)]; rfl
    have e2 : (S.one c).wt.getD c [] = [] := by
      show (S.wt.set c _).getD c [] = _
      rw [List.getD_eq_getElem?_getD, List.getElem?_eq_none (by simp; omega)]
      rfl
    rw [e, e2]
    rfl
noncomputable def cWait (A : Str → Addr) : MT := asB (mBin gIn (mVar 1) (mFld [A "Disk"] "kept_waiting" (mVar 0)))
noncomputable def bReach (A : Str → Addr) : MS := mDrop (mMeth (A "Disk") "reach_one" (l_Disk_reach_one A) (mVar 0) (mCons (mVar 1) mNil))
theorem wh_drain (A : Str → Addr) {n c d : Nat} (hc : c < n) : ∀ (k : Nat) {s : Sto} {S : Dst} {F : List Nat}, Dk A s d S F → S.Ok n → (S.wt.getD c []).length = k →
    ∃ K s' F', Dk A s' d (S.drain k c).1 F' ∧ (S.drain k c).1.Ok n ∧ Kp F s s' ∧ (∀ x ∈ F', x ∈ F ∨ s.length ≤ x) ∧
      mWhN (cWait A) (bReach A) K [some (.loc d), some (.int (c : Int))] s = some (if (S.drain k c).2 = true then .nx [some (.loc d), some (.int (c : Int))] s' else .exc ⟨A "Stopped", none⟩ [some (.loc d), some (.int (c : Int))] s')
  | 0, s, S, F, h, o, hl => by
    have hw : S.wt.getD c [] = [] := List.length_eq_zero_iff.mp hl
    have e2 := (dk_has (c := c) (r := [some (.loc d), some (.int (c : Int))]) h rfl rfl).1
    rw [hw] at e2
    refine ⟨1, s, F, h, o, Kp.refl, fun x hx => .inl hx, ?_⟩
    have e3 : cWait A [some (.loc d), some (.int (c : Int))] s = .ok false s := by
      unfold cWait
      simp only [asB, e2]
      simp
    simp [mWhN, e3, Dst.drain]
  | k + 1, s, S, F, h, o, hl => by
    have hw : S.wt.getD c [] ≠ [] := fun e => by rw [e] at hl; cases hl
    have e2 := (dk_has (c := c) (r := [some (.loc d), some (.int (c : Int))]) h rfl rfl).1
    rw [show decide (S.wt.getD c [] ≠ []) = true from decide_eq_true hw] at e2
    have e3 : cWait A [some (.loc d), some (.int (c : Int))] s = .ok true s := by
      unfold cWait
      simp only [asB, e2]
      simp
    have e4 := dk_meth (x := "reach_one") (f := l_Disk_reach_one A) (ma := mCons (mVar 1) mNil) (i := 0) (r := [some (.loc d), some (.int (c : Int))]) (ds := [.int (c : Int)]) h (by decide) rfl rfl
    by_cases hp : S.pw = some 0
    · refine ⟨1, s, F, ?_, ?_, Kp.refl, fun x hx => .inl hx, ?_⟩
      · simpa [Dst.drain, hp] using h
      · simpa [Dst.drain, hp] using o
      · simp [mWhN, e3, Dst.drain, hp, bReach, mDrop, e4, reach_one_stop A h hp]
    · obtain ⟨t, rs, hwc⟩ := getD_cons hw
      obtain ⟨v, s1, e5, rfl, F1, hd, hk, hn⟩ := (reach_one_ok A h o hp hwc).get
      obtain ⟨K, s', F', h1, h2, h3, h4, h5⟩ := wh_drain A hc k hd (o.one hp hw) (by rw [one_len, hl]; rfl)
      have e6 : S.drain (k + 1) c = (S.one c).drain k c := by simp [Dst.drain, hp]
      rw [e6]
      refine ⟨K + 1, s', F', h1, h2, hk.trans h3 hn, fun x hx => ?_, ?_⟩
      · rcases h4 x hx with q | q
        · exact hn x q
        · exact .inr (Nat.le_trans hk.1 q)
      · rw [mWhN, e3]
        simp only [bReach, mDrop, e4, e5]
        exact h5
theorem for_calm (A : Str → Addr) {n d m : Nat} {gs : List D} : ∀ (cs : List Nat) {s : Sto} {S : Dst} {F : List Nat} {v1 : Option D}, (∀ c ∈ cs, c < n) → Dk A s d S F → S.Ok n → s[m]? = some (.lst gs) → m ∉ F →
    ∃ s' F' r', Dk A s' d (S.calm cs).1 F' ∧ (S.calm cs).1.Ok n ∧ Kp F s s' ∧ (∀ x ∈ F', x ∈ F ∨ s.length ≤ x) ∧
      mForGo [(m, .lst gs)] (mgName 1) (mWh (cWait A) (bReach A)) (cs.map fun (c : Nat) => D.int (c : Int)) [some (.loc d), v1] s = (if (S.calm cs).2 = true then .nx r' s' else .exc ⟨A "Stopped", none⟩ r' s')
  | [], s, S, F, v1, _, h, o, hm, hF => by
    refine ⟨s, F, [some (.loc d), v1], h, o, Kp.refl, fun x hx => .inl hx, ?_⟩
    simp [mForGo, Dst.calm, hm]
  | c :: cs, s, S, F, v1, hcs, h, o, hm, hF => by
    have hc := hcs c List.mem_cons_self
    obtain ⟨K, s1, F1, h1, h2, h3, h4, h5⟩ := wh_drain A hc _ h o rfl
    have e5 := mWh_eq h5
    by_cases hok : (S.drain (S.wt.getD c []).length c).2 = true
    · rw [if_pos hok] at e5
      have hm1 := h3.get hm hF
      have hF1 : m ∉ F1 := fun hx => (h4 m hx).elim hF fun q => absurd (len_of hm) (by omega)
      obtain ⟨s', F', r', g1, g2, g3, g4, g5⟩ := for_calm A cs (fun x hx => hcs x (List.mem_cons_of_mem _ hx)) h1 h2 hm1 hF1 (v1 := some (.int (c : Int)))
      have e6 : S.calm (c :: cs) = (S.drain (S.wt.getD c []).length c).1.calm cs := by simp only [Dst.calm]; rw [if_pos hok]
      rw [e6]
      refine ⟨s', F', r', g1, g2, h3.trans g3 h4, fun x hx => ?_, ?_⟩
      · rcases g4 x hx with q | q
        · exact h4 x q
        · exact .inr (Nat.le_trans h3.1 q)
      · rw [List.map_cons, mForGo, if_pos (by simp [hm])]
        simp only [mgName, List.set, e5]
        exact g5
    · rw [if_neg hok] at e5
      have e6 : S.calm (c :: cs) = ((S.drain (S.wt.getD c []).length c).1, false) := by simp only [Dst.calm]; rw [if_neg hok]
      rw [e6]
      refine ⟨s1, F1, [some (.loc d), some (.int (c : Int))], h1, h2, h3, h4, ?_⟩
      rw [List.map_cons, mForGo, if_pos (by simp [hm])]
      simp only [mgName, List.set, e5]
      rfl
/-! ### cells for which nothing waits do not count -/
theorem drain_other {c a : Nat} (h : a ≠ c) : ∀ (k : Nat) {S : Dst}, (S.drain k c).1.wt.getD a [] = S.wt.getD a []
  | 0, S => rfl
  | k + 1, S => by
    unfold Dst.drain
    split
    · rfl
    · rw [drain_other h k]
      show (S.wt.set c _).getD a [] = _
      rw [List.getD_eq_getElem?_getD, List.getElem?_set_ne (Ne.symm h), ← List.getD_eq_getElem?_getD]
theorem calm_filter : ∀ (cs : List Nat) {S S0 : Dst}, cs.Nodup → (∀ c ∈ cs, S.wt.getD c [] = S0.wt.getD c []) → S.calm cs = S.calm (cs.filter fun c => decide (S0.wt.getD c [] ≠ []))
  | [], _, _, _, _ => rfl
  | c :: cs, S, S0, hn, h => by
    obtain ⟨h1, h2⟩ := List.nodup_cons.mp hn
    have hc := h c List.mem_cons_self
    have ih : ∀ {S1 : Dst}, (∀ a ∈ cs, S1.wt.getD a [] = S0.wt.getD a []) → S1.calm cs = S1.calm (cs.filter fun c => decide (S0.wt.getD c [] ≠ [])) := fun h => calm_filter cs h2 h
    by_cases hw : S0.wt.getD c [] = []
    · rw [List.filter_cons_of_neg (by simpa using hw)]
      have e : S.calm (c :: cs) = S.calm cs := by
        simp only [Dst.calm]
        rw [hc, hw]
        simp [Dst.drain]
      rw [e]
      exact ih fun a ha => h a (List.mem_cons_of_mem _ ha)
    · rw [List.filter_cons_of_pos (by simpa using hw)]
      simp only [Dst.calm]
      split
      · exact ih fun a ha => (drain_other (fun e => h1 (by rw [← e]; exact ha)) _).trans (h a (List.mem_cons_of_mem _ ha))
      · rfl
def Dst.keys (n : Nat) (S : Dst) : List Nat := (List.range n).filter fun c => decide (S.wt.getD c [] ≠ [])
theorem calm_keys {n : Nat} {S : Dst} : S.calm (List.range n) = S.calm (S.keys n) := calm_filter _ List.nodup_range fun _ _ => rfl
theorem intKeys_kq (q : List (Nat × Nat)) : intKeys (kqD q) = some (q.map fun x => (x.1 : Int)) := by
  induction q with
  | nil => rfl
  | cons e q ih => simp [intKeys, kqD] at ih ⊢; exact ih
theorem keys_sorted {A : Str → Addr} {s : Sto} {d l w n : Nat} {q : List (Nat × Nat)} {S : Dst} (h : DkAt A s d l w q S) (o : S.Ok n) : isort (q.map fun x => (x.1 : Int)) = (S.keys n).map fun (c : Nat) => (c : Int) := by
  have hp : (q.map (·.1)).Perm (S.keys n) := by
    refine (List.perm_ext_iff_of_nodup h.nd (List.nodup_range.filter _)).mpr fun c => ?_
    rw [h.ks c]
    simp only [Dst.keys, List.mem_filter, List.mem_range]
    constructor
    · rintro ⟨t, r, e⟩
      exact ⟨by have := (List.getElem?_eq_some_iff.mp e).1; rw [o.wt] at this; exact this, by rw [getD_of e]; simp⟩
    · rintro ⟨_, h2⟩
      exact getD_cons (of_decide_eq_true h2)
  have e : q.map (fun x => (x.1 : Int)) = (q.map (·.1)).map fun (c : Nat) => (c : Int) := by rw [List.map_map]; rfl
  rw [e]
  refine sorted_same ((isort_perm _).trans (hp.map _)) (isort_sorted _) ?_
  refine List.pairwise_map.mpr (List.Pairwise.imp (fun {a b} (h : a < b) => by omega) ?_)
  exact List.pairwise_lt_range.filter _
theorem calm_spec (A : Str → Addr) {s : Sto} {d n : Nat} {S : Dst} {F : List Nat} (h : Dk A s d S F) (o : S.Ok n) (hn : n < 64) :
    ∃ s' F', Dk A s' d (S.calm (List.range n)).1 F' ∧ (S.calm (List.range n)).1.Ok n ∧ Kp F s s' ∧ (∀ x ∈ F', x ∈ F ∨ s.length ≤ x) ∧
      l_Disk_calm A [.loc d] s = (if (S.calm (List.range n)).2 = true then .ok .non s' else .exc ⟨A "Stopped", none⟩ s') := by
  have h' := h
  obtain ⟨l, w, q, hF, h⟩ := h
  rw [calm_keys]
  have hfew := h.few o
  have e1 : mFld [A "Disk"] "kept_waiting" (mVar 0) [some (.loc d), none] s = .ok (.loc w) s := fld_eq rfl h.ob rfl
  have e2 : gSrt [.loc w] s = some ((isort (q.map fun x => (x.1 : Int))).map .int) := by
    simp only [gSrt, gSorted, h.wt, intKeys_kq, Option.bind_some]
    rw [if_pos (by rw [List.length_map]; omega)]
  rw [keys_sorted h o, List.map_map] at e2
  have hlt := h'.lt
  have hm : (s ++ [Ob.lst ((S.keys n).map fun (c : Nat) => D.int (c : Int))])[s.length]? = some (.lst ((S.keys n).map fun (c : Nat) => D.int (c : Int))) := last_of
  obtain ⟨s', F', r', g1, g2, g3, g4, g5⟩ := for_calm A (n := n) (S.keys n) (v1 := none) (fun c hc => List.mem_range.mp (List.mem_filter.mp hc).1) (h'.keep (Kp.refl.push (F := [])) fun _ _ => by simp) o hm fun hx => absurd (hlt _ hx) (by omega)
  refine ⟨s', F', g1, g2, (Kp.refl.push).trans g3 fun k hk => .inl hk, fun x hx => ?_, ?_⟩
  · rcases g4 x hx with q | q
    · exact .inl q
    · right; simp at q; omega
  · unfold l_Disk_calm mDef
    rw [if_pos (show [D.loc d].length = 1 from rfl)]
    show (match mFor _ _ _ [some (.loc d), none] s with
      | .nx _ s1 => R.ok D.non s1
      | .rt d s1 => R.ok d s1
      | .exc e _ s1 => R.exc e s1
      | _ => R.bad) = _
    have e3 : mIt (mNew (mCallL gSrt (mCons (mFld [A "Disk"] "kept_waiting" (mVar 0)) mNil))) [some (.loc d), none] s = .ok ((S.keys n).map fun (c : Nat) => D.int (c : Int), [(s.length, .lst ((S.keys n).map fun (c : Nat) => D.int (c : Int)))]) (s ++ [Ob.lst ((S.keys n).map fun (c : Nat) => D.int (c : Int))]) := by
      have e4 : ((D.int) ∘ fun (c : Nat) => (c : Int)) = fun (c : Nat) => D.int (c : Int) := rfl
      rw [e4] at e2
      simp [mIt, mNew, mCallL, mCons, mNil, e1, e2]
    simp only [mFor, e3]
    show (match mForGo _ (mgName 1) (mWh (cWait A) (bReach A)) _ _ _ with
      | .nx _ s1 => R.ok D.non s1
      | .rt d s1 => R.ok d s1
      | .exc e _ s1 => R.exc e s1
      | _ => R.bad) = _
    rw [g5]
    by_cases hb : (S.calm (S.keys n)).2 = true
    · rw [if_pos hb, if_pos hb]
    · rw [if_neg hb, if_neg hb]
end DL
end
/-! ### G5 -/
section
set_option linter.all false
set_option maxRecDepth 100000
set_option maxHeartbeats 4000000
/-! G5: what a disk tells. -/
namespace DL
open PySem PySem.Spec L2
open PyProof.Rows hiding St
theorem lying_ok (A : Str → Addr) {s : Sto} {d n c : Nat} {S : Dst} {F : List Nat} {t : D} (h : Dk A s d S F) (o : S.Ok n) (hc : c < n) (ht : S.ly[c]? = some t) : l_Disk_lying A [.loc d, .int (c : Int)] s = .ok t s := by
  have hck := check_cell_ok A h o hc
  obtain ⟨l, w, q, hF, h⟩ := h
  apply RW.eq
  unfold l_Disk_lying
  simp
  refine ⟨_, h.ob, lk_dk (by decide), ?_⟩
  rw [hck, RW_ok]
  refine ⟨_, _, h.ob, rfl, _, lk_ly, ?_⟩
  rw [gIx_lst h.ly, atI_in (by omega) (by rw [Int.toNat_natCast]; exact ht)]
  exact ⟨rfl, rfl⟩
/-- what was written into a cell last -/
def Dst.rd (S : Dst) (c : Nat) : D := (S.wt.getD c []).getLast?.getD (S.ly.getD c .non)
theorem atI_neg1 {xs : List D} {x : D} : atI (xs ++ [x]) (-1) = some x := by
  unfold atI ixN
  simp
  rw [if_pos (by omega)]
  have e : (-1 + ((xs.length : Int) + 1)).toNat = xs.length := by omega
  simp [e]
theorem atI_last {xs : List D} (h : xs ≠ []) : atI xs (-1) = some (xs.getLast h) := by
  have e := List.dropLast_concat_getLast h
  conv => lhs; rw [← e]
  exact atI_neg1
theorem read_ok (A : Str → Addr) {s : Sto} {d n c : Nat} {S : Dst} {F : List Nat} (h : Dk A s d S F) (o : S.Ok n) (hc : c < n) : l_Disk_read A [.loc d, .int (c : Int)] s = .ok (S.rd c) s := by
  have hck := check_cell_ok A h o hc
  have e2 := (dk_has (c := c) (r := [some (.loc d), some (.int (c : Int))]) h rfl rfl).1
  obtain ⟨l, w, q, hF, h⟩ := h
  have hly : S.ly[c]? = some (S.ly.getD c .non) := by
    have : c < S.ly.length := by rw [o.ly]; exact hc
    rw [getD_of (List.getElem?_eq_getElem this), List.getElem?_eq_getElem this]
  apply RW.eq
  unfold l_Disk_read
  rw [RW_def]
  refine ⟨rfl, ?_⟩
  rw [SW_seq, SW_drop, RW_meth]
  refine ⟨d, _, rfl, h.ob, lk_m (by decide), ?_⟩
  show RW (l_Disk_check_cell A [.loc d, .int (c : Int)] s) _
  rw [hck, RW_ok, SW_ret, RW_ifE, RW_asB]
  show RW (mBin gIn (mVar 1) (mFld [A "Disk"] "kept_waiting" (mVar 0)) [some (.loc d), some (.int (c : Int))] s) _
  rw [e2, RW_ok]
  refine ⟨_, rfl, ?_⟩
  by_cases hw : S.wt.getD c [] = []
  · rw [if_neg (by simpa using hw)]
    simp
    refine ⟨_, _, h.ob, rfl, _, lk_ly, ?_⟩
    rw [gIx_lst h.ly, atI_in (by omega) (by rw [Int.toNat_natCast]; exact hly)]
    refine ⟨rfl, ?_⟩
    unfold Dst.rd
    rw [hw]
    rfl
  · rw [if_pos (by simpa using hw)]
    obtain ⟨t, rs, hwc⟩ := getD_cons hw
    obtain ⟨y, hy, hy1⟩ := List.mem_map.mp ((h.ks c).mpr ⟨t, rs, hwc⟩)
    obtain ⟨x0, rfl⟩ : ∃ x0, y = (c, x0) := ⟨y.2, by rw [← hy1]⟩
    obtain ⟨hxl, z', hz', hx⟩ := h.qs _ hy
    rw [hwc] at hz'
    cases hz'
    simp
    refine ⟨_, _, h.ob, rfl, _, lk_wt, ?_⟩
    rw [gIx_dct h.wt]
    simp only [keyD, Option.bind_some, dGet_kq h.nd hy, Option.map_some, RW_of_some]
    rw [gIx_lst hx, atI_last (by simp)]
    refine ⟨rfl, ?_⟩
    unfold Dst.rd
    rw [getD_of hwc, List.getLast?_eq_some_getLast (by simp)]
    rfl
theorem many_ok (A : Str → Addr) {s : Sto} {d n : Nat} {S : Dst} {F : List Nat} (h : Dk A s d S F) (o : S.Ok n) : l_Disk_many_cells A [.loc d] s = .ok (.int (n : Int)) s := by
  obtain ⟨l, w, q, hF, h⟩ := h
  apply RW.eq
  unfold l_Disk_many_cells
  simp
  refine ⟨_, _, h.ob, rfl, _, lk_ly, ?_⟩
  rw [gLen_lst h.ly, o.ly]
  exact ⟨rfl, rfl⟩
theorem reached_ok (A : Str → Addr) {s : Sto} {d n : Nat} {S : Dst} {F : List Nat} (h : Dk A s d S F) : l_Disk_reached A [.loc d] s = .ok (.int S.rc) s := by
  obtain ⟨l, w, q, hF, h⟩ := h
  apply RW.eq
  unfold l_Disk_reached
  simp
  exact ⟨_, _, h.ob, rfl, lk_rc⟩
def thB : D → Bool
  | .tup xs => decide (xs ≠ [])
  | _ => false
theorem ThD.tup {t : D} (h : ThD t) : ∃ xs, t = .tup xs ∧ (xs = [] ∨ xs.length = 3) := by
  rcases h with rfl | ⟨a, b, c, rfl, _⟩
  · exact ⟨_, rfl, .inl rfl⟩
  · exact ⟨_, rfl, .inr rfl⟩
theorem used_spec (A : Str → Addr) {s : Sto} {d n : Nat} {S : Dst} {F : List Nat} (h : Dk A s d S F) (o : S.Ok n) : RW (l_Disk_used A [.loc d] s) fun v s' => v = .int ((S.ly.filter thB).length : Int) ∧ Kp [] s s' := by
  obtain ⟨l, w, q, hF, h⟩ := h
  have hl := o.ly
  have n1 := o.n1
  unfold l_Disk_used
  simp
  refine ⟨_, _, h.ob, rfl, _, lk_ly, ?_⟩
  refine ⟨S.ly, _, src_lst h.ly, ?_⟩
  refine lc_rw (f := fun x => x) (b := thB) (by simpa using h.ly) (small24 (by omega)) ?_ ?_
  · intro x hx
    obtain ⟨xs, rfl, hh⟩ := (o.tl x hx).tup
    simp [wipeD]
    rcases hh with rfl | hh
    · simp [thB]
    · cases xs with
      | nil => cases hh
      | cons a b => simp [thB]
  · simp
    exact Kp.refl.push
theorem foldl_putN : ∀ {kvs acc : List (Key × D)}, ((acc ++ kvs).map (·.1)).Nodup → kvs.foldl (fun acc kv => dPut acc kv.1 kv.2) acc = acc ++ kvs
  | [], acc, _ => by simp
  | (k, v) :: kvs, acc, h => by
    have hk : k ∉ acc.map (·.1) := by
      rw [List.map_append, List.map_cons] at h
      have h2 := (List.nodup_append.mp h).2.2
      exact fun hk => h2 k hk k (by simp) rfl
    have e : dPut acc k v = acc ++ [(k, v)] := by
      unfold dPut
      rw [if_neg]
      rw [List.any_eq_true]
      rintro ⟨kv, h1, h2⟩
      exact hk (List.mem_map.mpr ⟨kv, h1, of_decide_eq_true h2⟩)
    simp only [List.foldl_cons]
    rw [e, foldl_putN (by simpa using h)]
    simp
abbrev lenQ (q : List (Nat × Nat)) (S : Dst) : List (Key × D) := q.map fun x => ((Sum.inl (x.1 : Int) : Key), D.int ((S.wt.getD x.1 []).length : Int))
theorem key_nodup {α : Type} {q : List α} {f : α → Nat} {g : α → D} (h : (q.map f).Nodup) : ((q.map fun x => ((Sum.inl (f x : Int) : Key), g x)).map (·.1)).Nodup := by
  rw [List.map_map]
  have e : ((fun x : Key × D => x.1) ∘ fun x => ((Sum.inl (f x : Int) : Key), g x)) = (fun (c : Nat) => (Sum.inl (c : Int) : Key)) ∘ f := rfl
  rw [e, ← List.map_map]
  exact List.pairwise_map.mpr (List.Pairwise.imp (fun hne e => hne (key_eq.mp e)) h)
theorem waiting_spec (A : Str → Addr) {s : Sto} {d n : Nat} {S : Dst} {F : List Nat} (h : Dk A s d S F) (o : S.Ok n) :
    RW (l_Disk_waiting A [.loc d] s) fun v s' => ∃ q : List (Nat × Nat), (q.map (·.1)).Nodup ∧ (∀ c, c ∈ q.map (·.1) ↔ c ∈ S.keys n) ∧ v = .loc s.length ∧ s' = s ++ [.dct (lenQ q S)] := by
  obtain ⟨l, w, q, hF, h⟩ := h
  have hfew := h.few o
  have n1 := o.n1
  unfold l_Disk_waiting
  rw [RW_def]
  refine ⟨rfl, ?_⟩
  rw [SW_ret, RW_newD]
  have e1 : mFld [A "Disk"] "kept_waiting" (mVar 0) [some (.loc d), none, none] s = .ok (.loc w) s := fld_eq rfl h.ob rfl
  have hl : lockAt (mFld [A "Disk"] "kept_waiting" (mVar 0)) ([D.loc d].map some ++ List.replicate (3 - 1) none) s = some (w, kqD q) := by
    show (match mFld [A "Disk"] "kept_waiting" (mVar 0) [some (.loc d), none, none] s with
      | .ok (.loc n) _ => (match s[n]? with
        | some (.dct kvs) => some (n, kvs)
        | _ => none)
      | _ => none) = _
    rw [e1]
    simp [h.wt]
  refine RW_lock hl ?_
  have hw1 : (s.set w (Ob.lok (kqD q)))[w]? = some (.lok (kqD q)) := get_set_eq h.wt
  have e2 : mFld [A "Disk"] "kept_waiting" (mVar 0) [some (.loc d), none, none] (s.set w (Ob.lok (kqD q))) = .ok (.loc w) (s.set w (Ob.lok (kqD q))) := fld_eq rfl (get_set_ne h.ob (Ne.symm h.dw)) rfl
  have e3 : mItems (mFld [A "Disk"] "kept_waiting" (mVar 0)) [some (.loc d), none, none] (s.set w (Ob.lok (kqD q))) = .ok ((kqD q).map fun kv => .tup [keyV kv.1, kv.2], [(w, .lok (kqD q))]) (s.set w (Ob.lok (kqD q))) := by
    simp [mItems, e2, hw1]
  show RW (mDc (mItems (mFld [A "Disk"] "kept_waiting" (mVar 0))) _ _ _ _ _ [some (.loc d), none, none] (s.set w (Ob.lok (kqD q)))) _
  rw [RW_dc, e3, RW_ok]
  dsimp only
  have e4 : (kqD q).map (fun kv => D.tup [keyV kv.1, kv.2]) = q.map fun x => D.tup [.int (x.1 : Int), .loc x.2] := by
    simp [kqD, keyV, Function.comp_def]
  rw [e4]
  have e5 := dc_pure (gs := [(w, Ob.lok (kqD q))]) (tg := mgTup 2 (mgCons (mgName 1) (mgCons (mgName 2) mgNil))) (tt := mYes) (tk := mVar 1) (tv := mCallB gLen (mCons (mVar 2) mNil)) (r := wipeD [some (.loc d), none, none] [1, 2]) (s := s.set w (Ob.lok (kqD q)))
    (ds := q.map fun x => D.tup [.int (x.1 : Int), .loc x.2]) (b := fun _ => true)
    (f := fun e => match e with
      | .tup [.int i, .loc x] => (.inl i, match (s.set w (Ob.lok (kqD q)))[x]? with
        | some (.lst z) => .int (z.length : Int)
        | _ => .non)
      | _ => (.inl 0, .non)) (by simp [hw1]) (by simp; exact small24 (by omega)) ?_
  · rw [e5]
    have e6 : ((List.filter (fun _ => true) (q.map fun x => D.tup [.int (x.1 : Int), .loc x.2])).map (fun e => match e with
      | .tup [.int i, .loc x] => ((.inl i : Key), match (s.set w (Ob.lok (kqD q)))[x]? with
        | some (.lst z) => D.int (z.length : Int)
        | _ => .non)
      | _ => (.inl 0, .non))) = lenQ q S := by
      rw [List.filter_eq_self.mpr fun _ _ => rfl, List.map_map]
      apply List.map_congr_left
      intro x hx
      obtain ⟨a1, z, a2, a3⟩ := h.qs x hx
      have a4 := get_set_ne (ob' := Ob.lok (kqD q)) a3 (Ne.symm (h.qd hx).2)
      simp only [Function.comp, a4, getD_of a2]
    rw [e6, foldl_putN (by simpa using key_nodup (f := (·.1)) (g := fun x : Nat × Nat => D.int ((S.wt.getD x.1 []).length : Int)) h.nd)]
    refine ⟨kqD q, hw1, q, h.nd, fun c => ?_, ?_, ?_⟩
    · rw [h.ks c]
      simp only [Dst.keys, List.mem_filter, List.mem_range]
      constructor
      · rintro ⟨t, r, e⟩
        exact ⟨by have := (List.getElem?_eq_some_iff.mp e).1; rw [o.wt] at this; exact this, by rw [getD_of e]; simp⟩
      · rintro ⟨_, h2⟩
        exact getD_cons (of_decide_eq_true h2)
    · simp
    · rw [List.set_set]
      have e7 : s.set w (Ob.dct (kqD q)) = s := by
        apply List.ext_getElem?
        intro k
        by_cases hk : w = k
        · subst hk
          rw [get_set_eq h.wt, h.wt]
        · rw [List.getElem?_set_ne hk]
      rw [e7]
      simp
  · intro e he
    obtain ⟨x, hx, rfl⟩ := List.mem_map.mp he
    obtain ⟨a1, z, a2, a3⟩ := h.qs x hx
    have a4 := get_set_ne (ob' := Ob.lok (kqD q)) a3 (Ne.symm (h.qd hx).2)
    refine ⟨[some (.loc d), some (.int (x.1 : Int)), some (.loc x.2)], .int (x.1 : Int), by simp [wipeD, mgTup, mgCons, mgName, mgNil], rfl, fun _ => ⟨rfl, rfl, ?_⟩⟩
    simp [mCallB, mCons, mNil, mVar, gLen_lst a4, a4]
end DL
end
/-! ### P25 -/
section
set_option linter.all false
set_option maxRecDepth 100000
/-! P25: things whose type is known. -/
namespace DL
open PySem PySem.Spec L2
open PyProof.Rows hiding St
open LA
theorem ty_ext {s s1 : Sto} (a : Ext s s1) (h1 : HS s1) {d : D} (h : ∃ t, tyD s d = some t) : ∃ t, tyD s1 d = some t := by
  cases d with
  | loc n =>
    obtain ⟨t, h⟩ := h
    by_cases e : n = 2
    · subst e
      obtain ⟨cells, i, x, y, c, _, h2, _⟩ := h1
      exact ⟨"list", by simp only [tyD, h2]⟩
    · simp only [tyD] at h ⊢
      cases h2 : s[n]? with
      | none => rw [h2] at h; cases h
      | some ob =>
        rw [a.2 n e (len_of h2), h2]
        rw [h2] at h
        exact ⟨t, h⟩
  | _ => exact h
theorem KT.ext {s s1 : Sto} {d : D} (h : KT s d) (a : Ext s s1) (h1 : HS s1) : KT s1 d := ⟨ty_ext a h1 h.1, fun ds e x hx => ty_ext a h1 (h.2 ds e x hx)⟩
end DL
end
/-! ### P26a -/
section
set_option linter.all false
set_option maxRecDepth 100000
set_option maxHeartbeats 4000000
/-! P26: odd things. -/
namespace DL
open PySem PySem.Spec L2
open PyProof.Rows hiding St
open LA
theorem KT.lst {s : Sto} {n : Nat} {xs : List D} (h : s[n]? = some (.lst xs)) : KT s (.loc n) := ⟨⟨"list", by simp only [tyD, h]⟩, fun _ e => by cases e⟩
theorem KT.dct {s : Sto} {n : Nat} {xs : List (Key × D)} (h : s[n]? = some (.dct xs)) : KT s (.loc n) := ⟨⟨"dict", by simp only [tyD, h]⟩, fun _ e => by cases e⟩
end DL
end
/-! ### P26 -/
section
set_option linter.all false
set_option maxRecDepth 100000
set_option maxHeartbeats 4000000
/-! P26: odd things. -/
namespace DL
open PySem PySem.Spec L2
open PyProof.Rows hiding St
open LA
end DL
end
/-! ### P27 -/
section
set_option linter.all false
set_option maxRecDepth 100000
set_option maxHeartbeats 4000000
/-! P27: bent values. -/
namespace DL
open PySem PySem.Spec L2
open PyProof.Rows hiding St
open LA
theorem KT.ints {s : Sto} {xs : List Int} : KT s (rowD xs) := ⟨⟨_, rfl⟩, fun ds e x hx => by
  cases e
  obtain ⟨y, _, rfl⟩ := List.mem_map.mp hx
  exact ⟨_, rfl⟩⟩
theorem KT.tup {s : Sto} {ds : List D} (h : ∀ x ∈ ds, ∃ t, tyD s x = some t) : KT s (.tup ds) := ⟨⟨_, rfl⟩, fun es e x hx => by
  cases e
  exact h x hx⟩
end DL
end
/-! ### P28 -/
section
set_option linter.all false
set_option maxRecDepth 100000
set_option maxHeartbeats 4000000
/-! P28: drawn primes; values that make a sum. -/
namespace DL
open PySem PySem.Spec L2
open PyProof.Rows hiding St
open LA
theorem callS {f : MF} {v : V} {r : DL.Env} {s : Sto} {Q : D → Sto → Prop} : RW (mCallS f (some (.con v) :: r) s) Q ↔ RW (f [.con v] s) Q := Iff.rfl
theorem same_mod {p a b : Int} (ha : 0 ≤ a ∧ a < p) (hb : 0 ≤ b ∧ b < p) (d : p ∣ a - b) : a = b := by
  have h1 := Int.emod_eq_of_lt ha.1 ha.2
  have h2 := Int.emod_eq_of_lt hb.1 hb.2
  have h3 := (Int.emod_emod_of_dvd a (Int.dvd_refl p))
  have : a % p = b % p := Int.emod_eq_emod_iff_emod_sub_eq_zero.mpr (Int.emod_eq_zero_of_dvd d)
  omega
end DL
end
/-! ### Q1 -/
section
set_option linter.all false
set_option maxRecDepth 100000
set_option maxHeartbeats 4000000
/-! Q1: ladders: there is just one; no program. -/
namespace DL
open LA
abbrev vsP (R : List (Nat × List Int)) : List Vec := R.map fun e => vecL e.2
/-- a ladder of the span of Ss -/
structure LD (p : Int) (w : Nat) (Ss : List Vec) (R : List (Nat × List Int)) : Prop where
  row : ∀ e ∈ R, IsRow p w e.2
  asc : R.Pairwise fun a b => a.1 < b.1
  lt : ∀ e ∈ R, e.1 < w
  one : ∀ e ∈ R, p ∣ e.2.getD e.1 0 - 1
  low : ∀ e ∈ R, ∀ j, j < e.1 → p ∣ e.2.getD j 0
  off : ∀ e ∈ R, ∀ e' ∈ R, e.1 ≠ e'.1 → p ∣ e'.2.getD e.1 0
  up : ∀ e ∈ R, Sp p w Ss (vecL e.2)
  down : ∀ v ∈ Ss, Sp p w (vsP R) v
abbrev rowsP (R : List (Nat × List Int)) : List (Nat × Vec) := R.map fun e => (e.1, vecL e.2)
theorem vs_rowsP (R : List (Nat × List Int)) : vs (rowsP R) = vsP R := by simp [vs]
section
variable {p : Int} {w : Nat} {Ss Ss' : List Vec} {R R' : List (Nat × List Int)}
theorem tri_of : ∀ {R : List (Nat × List Int)}, R.Pairwise (fun a b => a.1 < b.1) → (∀ e ∈ R, e.1 < w) → (∀ e ∈ R, p ∣ e.2.getD e.1 0 - 1) → (∀ e ∈ R, ∀ e' ∈ R, e.1 ≠ e'.1 → p ∣ e'.2.getD e.1 0) → Tri p w (rowsP R)
  | [], _, _, _, _ => trivial
  | e :: R, h1, h2, h3, h4 => by
    have a := List.pairwise_cons.mp h1
    refine ⟨h2 e List.mem_cons_self, h3 e List.mem_cons_self, fun x hx => ?_, tri_of a.2 (fun x hx => h2 x (List.mem_cons_of_mem _ hx)) (fun x hx => h3 x (List.mem_cons_of_mem _ hx)) fun x hx y hy => h4 x (List.mem_cons_of_mem _ hx) y (List.mem_cons_of_mem _ hy)⟩
    obtain ⟨y, hy, rfl⟩ := List.mem_map.mp hx
    exact h4 e List.mem_cons_self y (List.mem_cons_of_mem _ hy) (by have := a.1 y hy; omega)
theorem LD.tri (h : LD p w Ss R) : Tri p w (rowsP R) := tri_of h.asc h.lt h.one h.off
/-- where no row has its place, the first value that is not 0 can't stand -/
theorem piv_zero : ∀ {R : List (Nat × List Int)}, Tri p w (rowsP R) → (∀ e ∈ R, ∀ j, j < e.1 → p ∣ e.2.getD j 0) → ∀ {v : Vec} {q : Nat}, q < w → Sp p w (vsP R) v → (∀ j, j < q → p ∣ v j) → (∀ e ∈ R, e.1 ≠ q) → p ∣ v q
  | [], _, _, v, q, hq, hv, _, _ => hv q hq
  | e :: R, ⟨t1, t2, t3, t4⟩, hl, v, q, hq, ⟨r, hv⟩, h0, hn => by
    have hne := hn e List.mem_cons_self
    have ih := fun {u : Vec} => piv_zero t4 (fun x hx => hl x (List.mem_cons_of_mem _ hx)) (v := u) hq
    have hr : p ∣ v e.1 - r * e.2.getD e.1 0 := Sp.at t1 (fun M hM => by
      obtain ⟨x, hx, rfl⟩ := List.mem_map.mp hM
      exact t3 _ (List.mem_map.mpr ⟨x, hx, rfl⟩)) hv
    rcases Nat.lt_or_ge e.1 q with h | h
    · have hr0 : p ∣ r := dvd3 (-1) 1 (-r) hr (h0 _ h) t2 (by simp only [vecL]; grind)
      have := ih hv (fun j hj => dvd2 1 (-(vecL e.2 j)) (h0 j hj) hr0 (by grind)) fun x hx => hn x (List.mem_cons_of_mem _ hx)
      exact dvd2 1 (vecL e.2 q) this hr0 (by grind)
    · have hql : ∀ j, j ≤ q → p ∣ e.2.getD j 0 := fun j hj => hl e List.mem_cons_self j (by omega)
      have := ih hv (fun j hj => dvd2 1 (-r) (h0 j hj) (hql j (by omega)) (by simp only [vecL]; grind)) fun x hx => hn x (List.mem_cons_of_mem _ hx)
      exact dvd2 1 r this (hql q (Nat.le_refl _)) (by simp only [vecL]; grind)
theorem LD.sub (hp : 2 ≤ p) (h : LD p w Ss R) (h' : LD p w Ss' R') (hs : ∀ v ∈ Ss, Sp p w Ss' v) : ∀ e ∈ R, ∃ e' ∈ R', e'.1 = e.1 := by
  intro e he
  apply Classical.byContradiction
  intro hn
  have hv : Sp p w (vsP R') (vecL e.2) := Sp.trans h'.down (Sp.trans hs (h.up e he))
  have := piv_zero h'.tri h'.low (h.lt e he) hv (h.low e he) fun x hx hq => hn ⟨x, hx, hq⟩
  have h1 := h.one e he
  have : p ∣ 1 := dvd2 1 (-1) this h1 (by simp only [vecL]; grind)
  have := Int.le_of_dvd (by omega) this
  omega
theorem strict_extN {l m : List Nat} (h1 : l.Pairwise (· < ·)) (h2 : m.Pairwise (· < ·)) (h : ∀ k, k ∈ l ↔ k ∈ m) : l = m := by
  have e : (l.map fun (i : Nat) => (i : Int)) = m.map fun (i : Nat) => (i : Int) := strict_ext (List.pairwise_map.mpr (h1.imp fun h => by omega)) (List.pairwise_map.mpr (h2.imp fun h => by omega)) fun k => by
    simp only [List.mem_map]
    constructor
    · rintro ⟨a, ha, rfl⟩; exact ⟨a, (h a).mp ha, rfl⟩
    · rintro ⟨a, ha, rfl⟩; exact ⟨a, (h a).mpr ha, rfl⟩
  have := congrArg (List.map Int.toNat) e
  rw [List.map_map, List.map_map] at this
  have id_ : ∀ l : List Nat, l.map (Int.toNat ∘ fun (i : Nat) => (i : Int)) = l := fun l => by
    rw [List.map_congr_left (g := id) fun a _ => by simp]
    simp
  rwa [id_, id_] at this
theorem pairs_ext : ∀ {R R' : List (Nat × List Int)}, R.map (·.1) = R'.map (·.1) → (R.map (·.1)).Nodup → (∀ e ∈ R, ∀ e' ∈ R', e.1 = e'.1 → e.2 = e'.2) → R = R'
  | [], [], _, _, _ => rfl
  | [], _ :: _, h, _, _ => by simp at h
  | _ :: _, [], h, _, _ => by simp at h
  | e :: R, e' :: R', h, hn, hh => by
    simp only [List.map_cons, List.cons.injEq] at h
    have h2 := hh e List.mem_cons_self e' List.mem_cons_self h.1
    have : e = e' := Prod.ext h.1 h2
    rw [this, pairs_ext h.2 (List.nodup_cons.mp hn).2 fun x hx y hy => hh x (List.mem_cons_of_mem _ hx) y (List.mem_cons_of_mem _ hy)]
/-- there is just one -/
theorem LD.uniq (hp : 2 ≤ p) (h : LD p w Ss R) (h' : LD p w Ss' R') (hs : ∀ v ∈ Ss, Sp p w Ss' v) (hs' : ∀ v ∈ Ss', Sp p w Ss v) : R = R' := by
  have asc : ∀ {R : List (Nat × List Int)}, R.Pairwise (fun a b => a.1 < b.1) → (R.map (·.1)).Pairwise (· < ·) := fun h => List.pairwise_map.mpr h
  have ep : R.map (·.1) = R'.map (·.1) := strict_extN (asc h.asc) (asc h'.asc) fun k => by
    simp only [List.mem_map]
    constructor
    · rintro ⟨e, he, rfl⟩
      obtain ⟨e', h1, h2⟩ := h.sub hp h' hs e he
      exact ⟨e', h1, h2⟩
    · rintro ⟨e, he, rfl⟩
      obtain ⟨e', h1, h2⟩ := h'.sub hp h hs' e he
      exact ⟨e', h1, h2⟩
  refine pairs_ext ep ((asc h.asc).imp fun h => by omega) fun e he e' he' hq => ?_
  have r1 := h.row e he
  have r2 := h'.row e' he'
  have hd : Sp p w (vsP R) (fun j => vecL e.2 j - vecL e'.2 j) := by
    have a : Sp p w (vsP R) (vecL e.2) := Sp.mem (List.mem_map.mpr ⟨e, he, rfl⟩)
    have b : Sp p w (vsP R) (vecL e'.2) := Sp.trans h.down (Sp.trans hs' (h'.up e' he'))
    exact a.sub b
  have hz : Z p w (fun j => vecL e.2 j - vecL e'.2 j) := by
    refine tri_zero h.tri (by rw [vs_rowsP]; exact hd) fun x hx => ?_
    obtain ⟨y, hy, rfl⟩ := List.mem_map.mp hx
    simp only [vecL]
    by_cases e1 : y.1 = e.1
    · have a := h.one e he
      have b := h'.one e' he'
      rw [e1]
      rw [← hq] at b
      exact dvd2 1 (-1) a b (by grind)
    · have a := h.off y hy e he e1
      obtain ⟨y', hy', e2⟩ := h.sub hp h' hs y hy
      have b := h'.off y' hy' e' he' (by rw [e2, ← hq]; exact e1)
      rw [e2] at b
      exact dvd2 1 (-1) a b (by grind)
  refine List.ext_getElem (by rw [r1.len, r2.len]) fun j h1 h2 => ?_
  have := hz j (by rw [← r1.len]; exact h1)
  simp only [vecL, List.getD, List.getElem?_eq_getElem h1, List.getElem?_eq_getElem h2, Option.getD_some] at this
  exact same_mod (r1.bd _ (List.getElem_mem h1)) (r2.bd _ (List.getElem_mem h2)) this
end
end DL
end
/-! ### Q2 -/
section
set_option linter.all false
set_option maxRecDepth 100000
set_option maxHeartbeats 4000000
/-! Q2: ladder_of, ladder. -/
namespace DL
open PySem PySem.Spec L2
open PyProof.Rows hiding St
open LA
/-- the rows of a ladder of T's -/
def IsLad (p : Int) (w : Nat) (T rows : List (List Int)) : Prop := ∃ R, rows = R.map (·.2) ∧ LD p w (upto (famL T) T.length) R
theorem up_mem {T : List (List Int)} {v : Vec} (h : v ∈ upto (famL T) T.length) : ∃ r ∈ T, v = vecL r := by
  obtain ⟨i, hi, rfl⟩ := List.mem_map.mp h
  have hi := List.mem_range.mp hi
  exact ⟨T[i], List.getElem_mem hi, by simp [famL, List.getD_eq_getElem?_getD, hi]⟩
theorem mem_up {T : List (List Int)} {r : List Int} (h : r ∈ T) : vecL r ∈ upto (famL T) T.length := by
  obtain ⟨i, hi, rfl⟩ := List.mem_iff_getElem.mp h
  exact List.mem_map.mpr ⟨i, List.mem_range.mpr hi, by simp [famL, List.getD_eq_getElem?_getD, hi]⟩
section
variable {p : Int} {w : Nat} {T T' rows rows' : List (List Int)}
theorem IsLad.uniq (hp : 2 ≤ p) (h : IsLad p w T rows) (h' : IsLad p w T' rows') (hs : ∀ v ∈ upto (famL T) T.length, Sp p w (upto (famL T') T'.length) v) (hs' : ∀ v ∈ upto (famL T') T'.length, Sp p w (upto (famL T) T.length) v) : rows = rows' := by
  obtain ⟨R, rfl, a⟩ := h
  obtain ⟨R', rfl, b⟩ := h'
  rw [a.uniq hp b hs hs']
theorem IsLad.same (hp : 2 ≤ p) (h : IsLad p w T rows) (h' : IsLad p w T rows') : rows = rows' := h.uniq hp h' (fun _ hv => Sp.mem hv) fun _ hv => Sp.mem hv
theorem LD.one' {Ss : List Vec} {R : List (Nat × List Int)} (hp : 2 ≤ p) (h : LD p w Ss R) {e : Nat × List Int} (he : e ∈ R) : e.2.getD e.1 0 = 1 :=
  same_mod ((h.row e he).at (h.lt e he)) (by omega) (h.one e he)
theorem LD.sm {Ss : List Vec} {R : List (Nat × List Int)} (hp : 2 ≤ p) (h : LD p w Ss R) {e : Nat × List Int} (he : e ∈ R) : IsSm p w e.2 := by
  refine ⟨h.row e he, e.2.getD e.1 0, ?_, by rw [h.one' hp he]; decide⟩
  have hl : e.1 < e.2.length := by rw [(h.row e he).len]; exact h.lt e he
  rw [List.getD_eq_getElem?_getD, List.getElem?_eq_getElem hl]
  exact List.getElem_mem hl
theorem IsLad.few (h : IsLad p w T rows) : rows.length ≤ w := by
  obtain ⟨R, rfl, a⟩ := h
  have := pigeon w (R.map (·.1)) (List.nodup_iff_pairwise_ne.mpr (List.Pairwise.imp (S := fun a b => a ≠ b) (fun h => Nat.ne_of_lt h) (List.pairwise_map.mpr a.asc : (R.map (·.1)).Pairwise (· < ·)))) fun x hx => by
    obtain ⟨e, he, rfl⟩ := List.mem_map.mp hx
    exact a.lt e he
  simpa using this
/-- a ladder is its own -/
theorem IsLad.self (h : IsLad p w T rows) : IsLad p w rows rows := by
  obtain ⟨R, rfl, a⟩ := h
  refine ⟨R, rfl, a.row, a.asc, a.lt, a.one, a.low, a.off, fun e he => Sp.mem (mem_up (List.mem_map.mpr ⟨e, he, rfl⟩)), fun v hv => ?_⟩
  obtain ⟨r, hr, rfl⟩ := up_mem hv
  obtain ⟨e, he, rfl⟩ := List.mem_map.mp hr
  exact Sp.mem (List.mem_map.mpr ⟨e, he, rfl⟩)
theorem IsLad.span (h : IsLad p w T rows) : (∀ v ∈ upto (famL T) T.length, Sp p w (upto (famL rows) rows.length) v) ∧ ∀ v ∈ upto (famL rows) rows.length, Sp p w (upto (famL T) T.length) v := by
  obtain ⟨R, rfl, a⟩ := h
  refine ⟨fun v hv => (a.down v hv).mono fun L hL => ?_, fun v hv => ?_⟩
  · obtain ⟨e, he, rfl⟩ := List.mem_map.mp hL
    exact mem_up (List.mem_map.mpr ⟨e, he, rfl⟩)
  · obtain ⟨r, hr, rfl⟩ := up_mem hv
    obtain ⟨e, he, rfl⟩ := List.mem_map.mp hr
    exact a.up e he
theorem IsLad.nil : IsLad p w [] [] := ⟨[], rfl, by simp, .nil, by simp, by simp, by simp, by simp, by simp, by simp⟩
end
end DL
end
/-! ### Q3 -/
section
set_option linter.all false
set_option maxRecDepth 100000
set_option maxHeartbeats 4000000
/-! Q3: the law's own ladder: clearing; no program. -/
namespace DL
open LA
structure LC (p : Int) (w : Nat) (V0 : List Vec) (Qs : List Nat) (G : List Gr) (h o : Nat) : Prop where
  len : G.length = Qs.length
  asc : Qs.Pairwise (· < ·)
  ltw : ∀ q ∈ Qs, q < w
  row : ∀ e ∈ G, IsRow p w e.row
  one : ∀ (i : Nat) (e : Gr), G[i]? = some e → p ∣ e.row.getD (Qs.getD i 0) 0 - 1
  low : ∀ (i : Nat) (e : Gr), G[i]? = some e → ∀ j, j < Qs.getD i 0 → p ∣ e.row.getD j 0
  off : ∀ (i : Nat) (e : Gr), G[i]? = some e → ∀ k, k < Qs.length → k ≠ i → (k < h ∨ (k = h ∧ i < o)) → p ∣ e.row.getD (Qs.getD k 0) 0
  up : ∀ e ∈ G, Sp p w V0 (vecL e.row)
  down : ∀ v ∈ V0, Sp p w (G.map fun e => vecL e.row) v
section
variable {p : Int} {w h o : Nat} {V0 : List Vec} {Qs : List Nat} {G : List Gr}
theorem getD_asc (ha : Qs.Pairwise (· < ·)) {i k : Nat} (hk : k < Qs.length) (hi : i < k) : Qs.getD i 0 < Qs.getD k 0 := by
  have := List.pairwise_iff_getElem.mp ha i k (by omega) hk hi
  simpa [List.getD_eq_getElem?_getD, hk, (show i < Qs.length by omega)] using this
theorem getD_mem {i : Nat} (hi : i < Qs.length) : Qs.getD i 0 ∈ Qs := by
  rw [List.getD_eq_getElem?_getD, List.getElem?_eq_getElem hi]
  exact List.getElem_mem hi
theorem LC.keep (l : LC p w V0 Qs G h o) (hs : ∀ e : Gr, G[o]? = some e → o ≠ h → h < Qs.length → p ∣ e.row.getD (Qs.getD h 0) 0) : LC p w V0 Qs G h (o + 1) := by
  refine ⟨l.len, l.asc, l.ltw, l.row, l.one, l.low, fun i e hi k hk hne hh => ?_, l.up, l.down⟩
  rcases hh with hh | ⟨rfl, hh⟩
  · exact l.off i e hi k hk hne (.inl hh)
  · rcases Nat.lt_or_ge i o with h1 | h1
    · exact l.off i e hi k hk hne (.inr ⟨rfl, h1⟩)
    · have : i = o := by omega
      subst this
      exact hs e hi (Ne.symm hne) hk
theorem LC.next (l : LC p w V0 Qs G h G.length) : LC p w V0 Qs G (h + 1) 0 := by
  refine ⟨l.len, l.asc, l.ltw, l.row, l.one, l.low, fun i e hi k hk hne hh => ?_, l.up, l.down⟩
  have hil := (List.getElem?_eq_some_iff.mp hi).1
  rcases hh with hh | ⟨_, hh⟩
  · rcases Nat.lt_or_ge k h with h1 | h1
    · exact l.off i e hi k hk hne (.inl h1)
    · exact l.off i e hi k hk hne (.inr ⟨by omega, hil⟩)
  · omega
theorem LC.clear (l : LC p w V0 Qs G h o) {eo eh e' : Gr} (ho : G[o]? = some eo) (hh : G[h]? = some eh) (hne : o ≠ h) (hc : ¬ p ∣ eo.row.getD (Qs.getD h 0) 0) (hr : IsRow p w e'.row)
    (hx : ∀ j, j < w → p ∣ e'.row.getD j 0 - (eo.row.getD j 0 - eo.row.getD (Qs.getD h 0) 0 * eh.row.getD j 0)) : LC p w V0 Qs (G.set o e') h (o + 1) := by
  have hol := (List.getElem?_eq_some_iff.mp ho).1
  have hhl := (List.getElem?_eq_some_iff.mp hh).1
  have hlen := l.len
  have hoh : o < h := by
    rcases Nat.lt_or_ge o h with z | z
    · exact z
    · exact absurd (l.low o eo ho _ (getD_asc l.asc (by omega) (by omega))) hc
  have hqo := getD_asc l.asc (show h < Qs.length by omega) hoh
  have hqh : Qs.getD h 0 < w := l.ltw _ (getD_mem (by omega))
  have at_ : ∀ (i : Nat) (e : Gr), (G.set o e')[i]? = some e → (i = o ∧ e = e') ∨ (i ≠ o ∧ G[i]? = some e) := fun i e hi => by
    by_cases z : i = o
    · subst z
      rw [List.getElem?_set_self hol] at hi
      cases hi
      exact .inl ⟨rfl, rfl⟩
    · rw [List.getElem?_set_ne (Ne.symm z)] at hi
      exact .inr ⟨z, hi⟩
  generalize hcc : eo.row.getD (Qs.getD h 0) 0 = c at *
  refine ⟨by rw [List.length_set]; exact hlen, l.asc, l.ltw, fun e he => ?_, fun i e hi => ?_, fun i e hi j hj => ?_, fun i e hi k hk hne2 hh2 => ?_, fun e he => ?_, fun v hv => ?_⟩
  · rcases List.mem_or_eq_of_mem_set he with z | z
    · exact l.row e z
    · rw [z]; exact hr
  · rcases at_ i e hi with ⟨rfl, rfl⟩ | ⟨_, hi⟩
    · have a := hx (Qs.getD i 0) (by omega)
      have b := l.one i eo ho
      have d := l.low h eh hh _ hqo
      exact dvd3 1 1 (-c) a b d (by grind)
    · exact l.one i e hi
  · rcases at_ i e hi with ⟨rfl, rfl⟩ | ⟨_, hi⟩
    · have a := hx j (by omega)
      have b := l.low i eo ho j hj
      have d := l.low h eh hh j (by omega)
      exact dvd3 1 1 (-c) a b d (by grind)
    · exact l.low i e hi j hj
  · have hkw := l.ltw _ (getD_mem hk)
    rcases at_ i e hi with ⟨rfl, rfl⟩ | ⟨z, hi⟩
    · have a := hx (Qs.getD k 0) hkw
      rcases hh2 with hh2 | ⟨rfl, _⟩
      · have b := l.off i eo ho k hk hne2 (.inl hh2)
        have d := l.off h eh hh k hk (by omega) (.inl hh2)
        exact dvd3 1 1 (-c) a b d (by grind)
      · have d := l.one k eh hh
        rw [hcc] at a
        exact dvd2 1 (-c) a d (by grind)
    · exact l.off i e hi k hk hne2 (by omega)
  · rcases List.mem_or_eq_of_mem_set he with z | z
    · exact l.up e z
    · rw [z]
      have a := l.up eo (List.mem_of_getElem? ho)
      have b := l.up eh (List.mem_of_getElem? hh)
      exact (a.add (b.smul (-c))).congr fun j hj => dvd1 (-1) (hx j hj) (by simp only [vecL]; grind)
  · refine Sp.trans (fun L hL => ?_) (l.down v hv)
    obtain ⟨e, he, rfl⟩ := List.mem_map.mp hL
    obtain ⟨i, hi⟩ := List.mem_iff_getElem?.mp he
    have inn : ∀ {i : Nat} {e : Gr}, G[i]? = some e → i ≠ o → Sp p w ((G.set o e').map fun e => vecL e.row) (vecL e.row) := fun {i e} hi z =>
      Sp.mem (List.mem_map.mpr ⟨e, List.mem_of_getElem? (by rw [List.getElem?_set_ne (Ne.symm z)]; exact hi), rfl⟩)
    by_cases z : i = o
    · subst z
      rw [ho] at hi
      cases hi
      have a : Sp p w ((G.set i e').map fun e => vecL e.row) (vecL e'.row) := Sp.mem (List.mem_map.mpr ⟨e', List.mem_of_getElem? (List.getElem?_set_self hol), rfl⟩)
      exact (a.add ((inn hh (Ne.symm hne)).smul c)).congr fun j hj => dvd1 1 (hx j hj) (by simp only [vecL]; grind)
    · exact inn hi z
end
end DL
end
/-! ### Q4 -/
section
set_option linter.all false
set_option maxRecDepth 100000
set_option maxHeartbeats 4000000
/-! Q4: the law's own ladder: the walk. -/
namespace DL
open PySem PySem.Spec L2
open PyProof.Rows hiding St
open LA
end DL
end
/-! ### Q5 -/
section
set_option linter.all false
set_option maxRecDepth 100000
set_option maxHeartbeats 4000000
/-! Q5: things in a drawn order; other sums. -/
namespace DL
open PySem PySem.Spec L2
open PyProof.Rows hiding St
open LA
theorem seqIx {k n : Nat} (h : k < n) : seqIndex? (k : Int) n = some k := by
  unfold seqIndex?
  have h1 : ¬ ((k : Int) < 0) := by omega
  simp [h1, h]
theorem gPop_at {s : Sto} {n k : Nat} {xs : List D} {y : D} (h : s[n]? = some (.lst xs)) (hk : xs[k]? = some y) (hl : xs.length < 2 ^ 62) : gPop (.loc n) [.int (k : Int)] s = some (y, s.set n (.lst (xs.eraseIdx k))) := by
  have hkl := (List.getElem?_eq_some_iff.mp hk).1
  simp only [gPop, h]
  rw [if_pos (by omega), seqIx hkl]
  simp [hk]
end DL
end
/-! ### G6 -/
section
set_option linter.all false
set_option maxRecDepth 100000
set_option maxHeartbeats 4000000
/-! G6: new disks, power, cut, copy. -/
namespace DL
open PySem PySem.Spec L2
open PyProof.Rows hiding St
/-- nothing waits -/
def Dst.at0 (n : Nat) (ly : List D) (rc : Int) : Dst := ⟨ly, List.replicate n [], none, rc⟩
theorem Dst.Ok.at0 {n : Nat} {ly : List D} {rc : Int} (h0 : 1 ≤ n) (h1 : n ≤ 2000) (hl : ly.length = n) (ht : ∀ x ∈ ly, ThD x) : (Dst.at0 n ly rc).Ok n where
  n0 := h0
  n1 := h1
  ly := hl
  wt := by simp [Dst.at0]
  tl := ht
  tw := fun q hq => by
    rw [List.eq_of_mem_replicate hq]
    simp
  pw := fun i hi => by cases hi
theorem at0_none {n c : Nat} {ly : List D} {rc : Int} : ¬ ∃ t r, (Dst.at0 n ly rc).wt[c]? = some (t :: r) := by
  rintro ⟨t, r, e⟩
  have := List.eq_of_mem_replicate (List.mem_of_getElem? e)
  cases this
theorem power_spec (A : Str → Addr) {s : Sto} {d n : Nat} {S : Dst} {F : List Nat} {m : Int} (h : Dk A s d S F) (o : S.Ok n) (hm : 0 ≤ m ∧ m ≤ 1000000) :
    RW (l_Disk_power A [.loc d, .int m] s) fun v s' => v = .non ∧ Dk A s' d { S with pw := some m } F ∧ Kp F s s' := by
  obtain ⟨l, w, q, hF, h⟩ := h
  have hob := h.ob
  unfold l_Disk_power
  simp
  rw [within_int]
  simp [truB, hm]
  refine ⟨_, _, hob, rfl, by simp, ?_⟩
  have e2 : putD "kept_power" (D.int m) (insD l w S) = insD l w { S with pw := some m } := putD_pw (v := some m)
  rw [e2]
  have up : ∀ {k : Nat} {ob : Ob}, s[k]? = some ob → k ≠ d → (s.set d (.ins (A "Disk") (insD l w { S with pw := some m })))[k]? = some ob := fun e hk => get_set_ne e (Ne.symm hk)
  refine ⟨⟨l, w, q, hF, get_set_eq hob, up h.ly (Ne.symm h.dl), up h.wt (Ne.symm h.dw), h.nd, h.ks, fun x hx => ?_⟩, Kp.refl.set (.inl (by rw [hF]; simp))⟩
  obtain ⟨a1, z, a2, a3⟩ := h.qs x hx
  exact ⟨a1, z, a2, up a3 (h.qd hx).1⟩
theorem cut_spec (A : Str → Addr) {s : Sto} {d n : Nat} {S : Dst} {F : List Nat} (h : Dk A s d S F) (o : S.Ok n) :
    RW (l_Disk_cut A [.loc d] s) fun v s' => v = .non ∧ ∃ F', Dk A s' d (Dst.at0 n S.ly S.rc) F' ∧ Kp F s s' ∧ ∀ k ∈ F', k ∈ F ∨ s.length ≤ k := by
  obtain ⟨l, w, q, hF, h⟩ := h
  have hob := h.ob
  have hly := h.ly
  have hdl := len_of hob
  have hll := len_of hly
  unfold l_Disk_cut
  simp
  refine ⟨_, _, get_push hob, rfl, by simp, ?_⟩
  have e1 : putD "kept_waiting" (D.loc s.length) (insD l w S) = insD l s.length S := by
    simp [putD, insD, show ¬ Str.ofString "kept_lying" = Str.ofString "kept_waiting" from by decide]
  rw [e1]
  refine ⟨_, _, get_set_eq (get_push hob), rfl, by simp, ?_⟩
  have e2 : putD "kept_power" D.non (insD l s.length S) = insD l s.length (Dst.at0 n S.ly S.rc) := putD_pw (v := none)
  rw [e2]
  refine ⟨fpD d l s.length [], ⟨l, s.length, [], rfl, get_set_eq (get_push hob), get_set_ne (get_push hly) h.dl, get_set_ne (by simp [kqD]) (by omega), by simp, fun c => ?_, by simp⟩, Kp.refl.push.set (.inl (by rw [hF]; simp)), fun k hk => ?_⟩
  · constructor
    · intro hc; simp at hc
    · intro hc; exact absurd hc at0_none
  · rw [hF]
    simp at hk ⊢
    rcases hk with rfl | rfl | rfl
    · simp
    · simp
    · right; exact Nat.le_refl _
theorem init_spec (A : Str → Addr) {s : Sto} {n : Nat} (h0 : 1 ≤ n) (h1 : n ≤ 2000) :
    RW (l_Disk_init A [.loc s.length, .int (n : Int)] (s ++ [.ins (A "Disk") []])) fun v s' => v = .non ∧ ∃ F', Dk A s' s.length (Dst.at0 n (List.replicate n (.tup [])) 0) F' ∧ Kp [] s s' ∧ ∀ k ∈ F', s.length ≤ k := by
  unfold l_Disk_init
  rw [RW_def]
  refine ⟨rfl, ?_⟩
  rw [SW_seq, SW_if]
  simp [within_int, truB]
  refine ⟨by omega, ?_⟩
  refine ⟨by omega, ?_⟩
  have e0 : (List.map (fun (i : Nat) => D.int (i : Int)) (List.range n)).length = n := by simp
  refine lc_rw (f := fun _ => .tup []) (b := fun _ => true) rfl (small24 (by omega)) ?_ ?_
  · intro e he
    simp [wipeD]
  · rw [List.filter_eq_self.mpr fun _ _ => rfl]
    have e1 : List.map (fun _ => D.tup []) (List.map (fun (i : Nat) => D.int (i : Int)) (List.range n)) = List.replicate n (D.tup []) := by
      rw [List.map_map]
      apply List.eq_replicate_iff.mpr
      constructor
      · simp
      · intro b hb
        obtain ⟨_, _, rfl⟩ := List.mem_map.mp hb
        rfl
    rw [e1]
    generalize hL : List.replicate n (D.tup []) = L
    have q0 : (s ++ [Ob.ins (A (Str.ofString "Disk")) []] ++ [Ob.lst L])[s.length]? = some (.ins (A "Disk") []) := by simp
    refine ⟨_, _, q0, rfl, by simp, ?_⟩
    have n1 : (s ++ [Ob.ins (A (Str.ofString "Disk")) []]).length = s.length + 1 := by simp
    rw [n1]
    generalize hs2 : (s ++ [Ob.ins (A (Str.ofString "Disk")) []] ++ [Ob.lst L]) = s2 at *
    have l2 : s2.length = s.length + 2 := by rw [← hs2]; simp
    have q1 : s2[s.length + 1]? = some (.lst L) := by rw [← hs2]; simp
    have k2 : Kp [] s s2 := by rw [← hs2]; exact Kp.refl.push.push
    clear hs2 n1
    have p1 : putD "kept_lying" (D.loc (s.length + 1)) [] = [(("kept_lying" : Str), D.loc (s.length + 1))] := rfl
    rw [p1]
    refine ⟨_, _, get_push (get_set_eq q0), rfl, by simp, ?_⟩
    have p2 : putD "kept_waiting" (D.loc (s.length + 1 + 1)) [(("kept_lying" : Str), D.loc (s.length + 1))] = [(("kept_lying" : Str), D.loc (s.length + 1)), (("kept_waiting" : Str), D.loc (s.length + 1 + 1))] := by
      simp [putD, show ¬ Str.ofString "kept_lying" = Str.ofString "kept_waiting" from by decide]
    rw [p2]
    refine ⟨_, _, get_set_eq (get_push (get_set_eq q0)), rfl, by simp, ?_⟩
    have p3 : putD "kept_power" D.non [(("kept_lying" : Str), D.loc (s.length + 1)), (("kept_waiting" : Str), D.loc (s.length + 1 + 1))] = [(("kept_lying" : Str), D.loc (s.length + 1)), (("kept_waiting" : Str), D.loc (s.length + 1 + 1)), (("kept_power" : Str), D.non)] := by
      simp [putD, show ¬ Str.ofString "kept_lying" = Str.ofString "kept_power" from by decide, show ¬ Str.ofString "kept_waiting" = Str.ofString "kept_power" from by decide]
    rw [p3]
    refine ⟨_, _, get_set_eq (get_push (get_set_eq q0)), rfl, by simp, ?_⟩
    have p4 : putD "kept_reached" (D.int 0) [(("kept_lying" : Str), D.loc (s.length + 1)), (("kept_waiting" : Str), D.loc (s.length + 1 + 1)), (("kept_power" : Str), D.non)] = insD (s.length + 1) (s.length + 2) (Dst.at0 n L 0) := by
      simp [putD, insD, Dst.at0, pwD, show ¬ Str.ofString "kept_lying" = Str.ofString "kept_reached" from by decide, show ¬ Str.ofString "kept_waiting" = Str.ofString "kept_reached" from by decide, show ¬ Str.ofString "kept_power" = Str.ofString "kept_reached" from by decide]
    rw [p4]
    refine ⟨fpD s.length (s.length + 1) (s.length + 2) [], ⟨s.length + 1, s.length + 2, [], rfl, get_set_eq (get_push (get_set_eq q0)), get_set_ne (get_push (get_set_ne q1 (by omega))) (by omega), get_set_ne (by rw [show s.length + 2 = (s2.set s.length (Ob.ins (A (Str.ofString "Disk")) [(("kept_lying" : Str), D.loc (s.length + 1))])).length from by simp [l2]]; exact last_of) (by omega), by simp, fun c => ?_, by simp⟩, ?_, fun k hk => ?_⟩
    · constructor
      · intro hc; simp at hc
      · intro hc; exact absurd hc at0_none
    · exact ((k2.set (.inr (Nat.le_refl _))).push).set (.inr (Nat.le_refl _))
    · simp at hk
      omega
end DL
end
/-! ### G7 -/
section
set_option linter.all false
set_option maxRecDepth 100000
set_option maxHeartbeats 4000000
/-! G7: accounts. -/
namespace DL
open PySem PySem.Spec L2
open PyProof.Rows hiding St
theorem AcAt.aN {s : Sto} {a l w : Nat} {p : List Nat} {S : Dst} (h : AcAt s a l w p S) : a ∉ l :: w :: p := fun hx => by
  have hob := h.ob
  simp only [List.mem_cons] at hx
  rcases hx with rfl | rfl | hx
  · rw [h.ly] at hob; cases hob
  · rw [h.wt] at hob; cases hob
  · obtain ⟨i, hi⟩ := List.getElem?_of_mem hx
    obtain ⟨z, _, h3⟩ := h.ps i a hi
    rw [hob] at h3; cases h3
theorem gIx_ac {s : Sto} {a l w : Nat} {S : Dst} (h : s[a]? = some (.dct (acD l w S))) : gIx (.loc a) (.str "lying") s = some (.loc l, s) ∧ gIx (.loc a) (.str "waiting") s = some (.loc w, s) ∧ gIx (.loc a) (.str "power") s = some (pwD S.pw, s) ∧ gIx (.loc a) (.str "reached") s = some (.int S.rc, s) := by
  refine ⟨?_, ?_, ?_, ?_⟩ <;> rw [gIx_dct h] <;> rfl
theorem gSet_str {s : Sto} {a : Nat} {kvs : List (Key × D)} {x : Str} {v : D} (h : s[a]? = some (.dct kvs)) (hl : kvs.length < 1000) : gSet (.loc a) (.str x) v s = some (s.set a (.dct (dPut kvs (.inr x) v))) := by
  simp only [gSet, h, keyD, Option.bind_some]
  rw [if_pos (by rw [sizeLine_eq]; omega)]
theorem put_pw {l w : Nat} {S : Dst} {v : Option Int} : dPut (acD l w S) (.inr "power") (pwD v) = acD l w { S with pw := v } := rfl
theorem put_rc {l w : Nat} {S : Dst} {v : Int} : dPut (acD l w S) (.inr "reached") (.int v) = acD l w { S with rc := v } := rfl
theorem put_wt {l w w2 : Nat} {S : Dst} : dPut (acD l w S) (.inr "waiting") (.loc w2) = acD l w2 S := rfl
theorem gEq_n0 {i : Int} {s : Sto} : gEq .non (.int i) s = some (.bl false, s) := by
  simp [gEq, eqB, D.py, D.pyW, SeqAt.shaped, PyData.canLay0, PyData.depth, PyData.eqv]
theorem lreached_stop (A : Str → Addr) {s : Sto} {a c : Nat} {S : Dst} {G : List Nat} (h : Ac s a S G) (hp : S.pw = some 0) : l_law_reached A [.loc a, .int (c : Int)] s = .ok (.bl false) s := by
  obtain ⟨l, w, p, hG, h⟩ := h
  obtain ⟨e1, e2, e3, e4⟩ := gIx_ac h.ob
  apply RW.eq
  unfold l_law_reached
  simp [e3, hp, pwD]
theorem lreached_ok (A : Str → Addr) {s : Sto} {a n c : Nat} {S : Dst} {G : List Nat} {t : D} {rs : List D} (h : Ac s a S G) (o : S.Ok n) (hp : S.pw ≠ some 0) (hw : S.wt[c]? = some (t :: rs)) :
    RW (l_law_reached A [.loc a, .int (c : Int)] s) fun v s' => v = .bl true ∧ Ac s' a (S.one c) G ∧ Kp G s s' := by
  obtain ⟨l, w, p, hG, h⟩ := h
  have hob := h.ob
  have aN := h.aN
  have hnd := h.nd
  simp only [List.mem_cons, not_or] at aN
  simp only [List.nodup_cons, List.mem_cons, not_or] at hnd
  have hcw := (List.getElem?_eq_some_iff.mp hw).1
  have hcn : c < n := by rw [← o.wt]; exact hcw
  have n1 := o.n1
  obtain ⟨x, hx⟩ : ∃ x, p[c]? = some x := ⟨_, List.getElem?_eq_getElem (by rw [h.len]; exact hcw)⟩
  obtain ⟨z, hz, hsx⟩ := h.ps c x hx
  rw [hw] at hz
  cases hz
  have hxp := List.mem_of_getElem? hx
  have hxa : x ≠ a := fun e => aN.2.2 (e ▸ hxp)
  have hxl : x ≠ l := fun e => hnd.1.2 (e ▸ hxp)
  have hxw : x ≠ w := fun e => hnd.2.1 (e ▸ hxp)
  have hT := (o.tw _ (List.mem_of_getElem? hw)).2
  obtain ⟨e1, e2, e3, e4⟩ := gIx_ac hob
  unfold l_law_reached
  rw [RW_def]
  refine ⟨rfl, ?_⟩
  rw [SW_seq]
  refine SW.midr (fun r s1 => r = [some (.loc a), some (.int (c : Int))] ∧ s1 = s) ?_ ?_
  · simp [e3]
    cases hq : S.pw with
    | none => rw [show pwD none = D.non from rfl, gEq_n0]; simp
    | some i =>
      have hi : i ≠ 0 := fun e => hp (by rw [hq, e])
      simp [pwD, hi]
  rintro r s1 ⟨rfl, rfl⟩
  rw [SW_seq]
  refine SW.midr (fun r s2 => r = [some (.loc a), some (.int (c : Int))] ∧ s2[a]? = some (.dct (acD l w { S with pw := S.pw.map fun i => i - 1 })) ∧ s2.length = s1.length ∧ ∀ k, k ≠ a → s2[k]? = s1[k]?) ?_ ?_
  · simp [e3]
    cases hq : S.pw with
    | none =>
      rw [show pwD none = D.non from rfl]
      simp
      rw [hob, ← hq]
    | some i =>
      rw [show pwD (some i) = D.int i from rfl]
      simp [e3, hq, pwD]
      refine ⟨_, gSet_str hob (by simp), ?_⟩
      have e5 : dPut (acD l w S) (.inr "power") (D.int (i - 1)) = acD l w { S with pw := some (i - 1) } := put_pw (v := some (i - 1))
      rw [e5]
      exact ⟨get_set_eq hob, by simp, fun k hk => List.getElem?_set_ne (Ne.symm hk)⟩
  rintro r s2 ⟨rfl, b1, b2, b3⟩
  have g2 : ∀ {k : Nat} {ob : Ob}, s1[k]? = some ob → k ≠ a → s2[k]? = some ob := fun e hk => by rw [b3 _ hk]; exact e
  obtain ⟨f1, f2, f3, f4⟩ := gIx_ac b1
  have w2 := g2 h.wt (Ne.symm aN.2.1)
  have l2 := g2 h.ly (Ne.symm aN.1)
  have x2 := g2 hsx hxa
  have hpc : atI (p.map D.loc) (c : Int) = some (.loc x) := atI_in (by omega) (by rw [Int.toNat_natCast, List.getElem?_map, hx]; rfl)
  simp [f2]
  rw [gIx_lst w2, hpc]
  simp
  refine ⟨by simp [itL, x2], ?_⟩
  rw [show (0 : Int) = ((0 : Nat) : Int) from rfl, gPop_at x2 (y := t) rfl (by simp at hT ⊢; omega)]
  simp only [RW_of_some, List.eraseIdx_zero, List.tail_cons]
  generalize hs3 : s2.set x (.lst rs) = s3
  have g3 : ∀ {k : Nat} {ob : Ob}, s2[k]? = some ob → k ≠ x → s3[k]? = some ob := fun e hk => by rw [← hs3]; exact get_set_ne e (Ne.symm hk)
  have b4 := g3 b1 (Ne.symm hxa)
  obtain ⟨f1, f2, f3, f4⟩ := gIx_ac b4
  have l3 := g3 l2 (Ne.symm hxl)
  have hcl : c < S.ly.length := by rw [o.ly]; exact hcn
  rw [f1]
  simp only [RW_of_some]
  refine ⟨_, gSet_lst l3 (ixN_nn (by omega) (by rw [Int.toNat_natCast]; exact hcl)), ?_⟩
  simp only [Int.toNat_natCast]
  generalize hs4 : s3.set l (.lst (S.ly.set c t)) = s4
  have b5 : s4[a]? = some (.dct (acD l w { S with pw := S.pw.map fun i => i - 1 })) := by rw [← hs4]; exact get_set_ne b4 (Ne.symm aN.1)
  obtain ⟨f1, f2, f3, f4⟩ := gIx_ac b5
  rw [f4]
  simp only [RW_of_some, gAdd_int]
  refine ⟨_, gSet_str b5 (by simp), ?_⟩
  rw [put_rc]
  have ly1 : (S.one c).ly = S.ly.set c t := by simp [Dst.one, hw]
  have wt1 : (S.one c).wt = S.wt.set c rs := by simp [Dst.one, hw]
  have u : ∀ {k : Nat} {ob : Ob}, s1[k]? = some ob → k ≠ a → k ≠ x → k ≠ l → (s4.set a (.dct (acD l w { S with pw := S.pw.map fun i => i - 1, rc := S.rc + 1 })))[k]? = some ob := fun e k1 k2 k3 => get_set_ne (by rw [← hs4]; exact get_set_ne (g3 (g2 e k1) k2) (Ne.symm k3)) (Ne.symm k1)
  have l5 : (s4.set a (.dct (acD l w { S with pw := S.pw.map fun i => i - 1, rc := S.rc + 1 }))).length = s1.length := by
    rw [← hs4, ← hs3]; simp [b2]
  refine ⟨⟨l, w, p, hG, get_set_eq b5, ?_, u h.wt (Ne.symm aN.2.1) (Ne.symm hxw) (Ne.symm hnd.1.1), by rw [wt1, List.length_set]; exact h.len, fun i y hy => ?_, h.nd⟩, by rw [l5]; exact Nat.le_refl _, fun k hk hkG => ?_⟩
  · rw [ly1]
    exact get_set_ne (by rw [← hs4]; exact get_set_eq l3) aN.1
  · have hyp := List.mem_of_getElem? hy
    obtain ⟨z, z1, z2⟩ := h.ps i y hy
    by_cases hic : i = c
    · subst hic
      rw [hx] at hy
      cases hy
      refine ⟨rs, by rw [wt1, List.getElem?_set_self hcw], ?_⟩
      exact get_set_ne (by rw [← hs4]; exact get_set_ne (by rw [← hs3]; exact get_set_eq x2) (Ne.symm hxl)) (Ne.symm hxa)
    · have hyx : y ≠ x := fun e => hic ((List.getElem?_inj (List.getElem?_eq_some_iff.mp hy).1 hnd.2.2).mp (by rw [hy, hx, e]))
      refine ⟨z, by rw [wt1, List.getElem?_set_ne (Ne.symm hic)]; exact z1, u z2 (fun e => aN.2.2 (e ▸ hyp)) hyx fun e => hnd.1.2 (e ▸ hyp)⟩
  · rw [hG] at hkG
    simp only [List.mem_cons, not_or] at hkG
    have : k ≠ x := fun e => hkG.2.2.2 (e ▸ hxp)
    rw [u (List.getElem?_eq_getElem hk) hkG.1 this hkG.2.1, List.getElem?_eq_getElem hk]
/-! ### one by one -/
theorem calm_t {cs : List Nat} {S : Dst} {c : Nat} (h : (S.drain (S.wt.getD c []).length c).2 = true) : S.calm (c :: cs) = (S.drain (S.wt.getD c []).length c).1.calm cs := by simp only [Dst.calm]; rw [if_pos h]
theorem calm_f {cs : List Nat} {S : Dst} {c : Nat} (h : ¬ (S.drain (S.wt.getD c []).length c).2 = true) : S.calm (c :: cs) = ((S.drain (S.wt.getD c []).length c).1, false) := by simp only [Dst.calm]; rw [if_neg h]
theorem calm_app : ∀ (cs : List Nat) {S : Dst} {c : Nat}, S.calm (cs ++ [c]) = if (S.calm cs).2 = true then (S.calm cs).1.drain ((S.calm cs).1.wt.getD c []).length c else ((S.calm cs).1, false)
  | [], S, c => by
    show S.calm [c] = S.drain (S.wt.getD c []).length c
    by_cases h : (S.drain (S.wt.getD c []).length c).2 = true
    · rw [calm_t h]
      exact Prod.ext rfl h.symm
    · rw [calm_f h]
      exact Prod.ext rfl (Bool.eq_false_iff.mpr h).symm
  | b :: cs, S, c => by
    by_cases h : (S.drain (S.wt.getD b []).length b).2 = true
    · simp only [List.cons_append, calm_t h]
      exact calm_app cs
    · simp only [List.cons_append, calm_f h]
      simp
theorem calm_stop : ∀ (cs ds : List Nat) {S : Dst}, (S.calm cs).2 = false → S.calm (cs ++ ds) = S.calm cs
  | [], ds, S, h => by simp [Dst.calm] at h
  | b :: cs, ds, S, h => by
    by_cases hb : (S.drain (S.wt.getD b []).length b).2 = true
    · rw [calm_t hb] at h
      rw [List.cons_append, calm_t hb, calm_t hb]
      exact calm_stop cs ds h
    · rw [List.cons_append, calm_f hb, calm_f hb]
theorem drain_succ : ∀ (k : Nat) {S : Dst} {c : Nat}, (S.drain k c).2 = true → S.drain (k + 1) c = if (S.drain k c).1.pw = some 0 then ((S.drain k c).1, false) else ((S.drain k c).1.one c, true)
  | 0, S, c, _ => by
    by_cases hp : S.pw = some 0 <;> simp [Dst.drain, hp]
  | k + 1, S, c, h => by
    by_cases hp : S.pw = some 0
    · simp [Dst.drain, hp] at h
    · have e : ∀ j, S.drain (j + 1) c = (S.one c).drain j c := fun j => by simp [Dst.drain, hp]
      rw [e] at h
      rw [e, e, drain_succ k h]
theorem drain_stop : ∀ (k j : Nat) {S : Dst} {c : Nat}, (S.drain k c).2 = false → S.drain (k + j) c = S.drain k c
  | 0, j, S, c, h => by simp [Dst.drain] at h
  | k + 1, j, S, c, h => by
    by_cases hp : S.pw = some 0
    · rw [show k + 1 + j = k + j + 1 from by omega]
      simp [Dst.drain, hp]
    · have e : ∀ j, S.drain (j + 1) c = (S.one c).drain j c := fun j => by simp [Dst.drain, hp]
      rw [e] at h
      rw [show k + 1 + j = k + j + 1 from by omega, e, e]
      exact drain_stop k j h
theorem drain_len : ∀ (k : Nat) {S : Dst} {c : Nat}, (S.drain k c).2 = true → ((S.drain k c).1.wt.getD c []).length = (S.wt.getD c []).length - k
  | 0, S, c, _ => rfl
  | k + 1, S, c, h => by
    by_cases hp : S.pw = some 0
    · simp [Dst.drain, hp] at h
    · have e : S.drain (k + 1) c = (S.one c).drain k c := by simp [Dst.drain, hp]
      rw [e] at h ⊢
      rw [drain_len k h, one_len]
      omega
theorem lcalmed_spec (A : Str → Addr) {s : Sto} {a n : Nat} {S : Dst} {G : List Nat} (h : Ac s a S G) (o : S.Ok n) :
    RW (l_law_calmed A [.loc a] s) fun v s' => v = .bl (S.calm (List.range n)).2 ∧ Ac s' a (S.calm (List.range n)).1 G ∧ Kp G s s' := by
  have n1 := o.n1
  unfold l_law_calmed
  rw [RW_def]
  refine ⟨rfl, ?_⟩
  rw [SW_seq, SW_for]
  have h0 := h
  obtain ⟨l, w, p, hG, hh⟩ := h0
  obtain ⟨e1, e2, e3, e4⟩ := gIx_ac hh.ob
  simp [e1]
  rw [gLen_lst hh.ly, o.ly]
  simp
  refine ⟨by omega, ?_⟩
  have hlen : (List.map (fun (i : Nat) => D.int (i : Int)) (List.range n)).length = n := by simp
  refine SW_forGo (fun i r s1 => ∃ v1 v2, r = [some (.loc a), v1, v2] ∧ (S.calm (List.range i)).2 = true ∧ (S.calm (List.range i)).1.Ok n ∧ Ac s1 a (S.calm (List.range i)).1 G ∧ Kp G s s1) ⟨_, _, rfl, rfl, o, h, Kp.refl⟩ (by intros; rfl) ?_ ?_
  · rintro i dd r s1 hdd ⟨v1, v2, rfl, hb, o1, h1, k1⟩
    obtain ⟨hin, rfl⟩ := range_get hdd
    obtain ⟨l, w, p, hG, hh⟩ := id h1
    obtain ⟨e1, e2, e3, e4⟩ := gIx_ac hh.ob
    have hiw : i < (S.calm (List.range i)).1.wt.length := by rw [o1.wt]; exact hin
    obtain ⟨x, hx⟩ : ∃ x, p[i]? = some x := ⟨_, List.getElem?_eq_getElem (by rw [hh.len]; exact hiw)⟩
    obtain ⟨z, hz, hsx⟩ := hh.ps i x hx
    have hpc : atI (p.map D.loc) (i : Int) = some (.loc x) := atI_in (by omega) (by rw [Int.toNat_natCast, List.getElem?_map, hx]; rfl)
    have hzl := (o1.tw z (List.mem_of_getElem? hz)).2
    simp [e2]
    rw [gIx_lst hh.wt, hpc]
    simp
    rw [gLen_lst hsx]
    simp
    refine ⟨by omega, ?_⟩
    have zlen : ((S.calm (List.range i)).1.wt.getD i []).length = z.length := by rw [getD_of hz]
    have stp : S.calm (List.range (i + 1)) = (S.calm (List.range i)).1.drain z.length i := by
      rw [List.range_succ, calm_app, if_pos hb, zlen]
    generalize hT : (S.calm (List.range i)).1 = T at *
    refine SW_forGo (fun j r s2 => ∃ v2, r = [some (.loc a), some (.int (i : Int)), v2] ∧ (T.drain j i).2 = true ∧ (T.drain j i).1.Ok n ∧ Ac s2 a (T.drain j i).1 G ∧ Kp G s s2) ⟨_, rfl, rfl, o1, h1, k1⟩ (by intros; rfl) ?_ ?_
    · rintro j dd r s2 hdd ⟨v2, rfl, hb2, o2, h2, k2⟩
      obtain ⟨hjz, rfl⟩ := range_get hdd
      have hl2 := drain_len j hb2
      have hw2 : (T.drain j i).1.wt.getD i [] ≠ [] := fun e => by rw [e, zlen] at hl2; simp at hl2; omega
      obtain ⟨t, rs, hwc⟩ := getD_cons hw2
      simp
      by_cases hp : (T.drain j i).1.pw = some 0
      · rw [lreached_stop A h2 hp]
        simp [truB]
        have hd : T.drain (j + 1) i = ((T.drain j i).1, false) := by rw [drain_succ j hb2, if_pos hp]
        have hd2 : T.drain z.length i = ((T.drain j i).1, false) := by
          have := drain_stop (j + 1) (z.length - (j + 1)) (S := T) (c := i) (by rw [hd])
          rw [show j + 1 + (z.length - (j + 1)) = z.length from by omega, hd] at this
          exact this
        have hc : S.calm (List.range n) = ((T.drain j i).1, false) := by
          obtain ⟨m, rfl⟩ : ∃ m, n = i + 1 + m := ⟨n - (i + 1), by omega⟩
          rw [List.range_add, calm_stop _ _ (by rw [stp, hd2]), stp, hd2]
        rw [hc]
        exact ⟨rfl, h2, k2⟩
      · refine (lreached_ok A h2 o2 hp hwc).imp fun v s3 ⟨e, h3, k3⟩ => ?_
        subst e
        simp [truB]
        have hd : T.drain (j + 1) i = ((T.drain j i).1.one i, true) := by rw [drain_succ j hb2, if_neg hp]
        rw [hd]
        exact ⟨rfl, o2.one hp hw2, h3, k2.trans k3 fun k hk => .inl hk⟩
    · rintro r s2 ⟨v2, rfl, hb2, o2, h2, k2⟩
      have e : (List.map (fun (i : Nat) => D.int (i : Int)) (List.range z.length)).length = z.length := by simp
      rw [e] at hb2 o2 h2
      exact ⟨⟨_, _, rfl⟩, by rw [stp]; exact hb2, by rw [stp]; exact o2, by rw [stp]; exact h2, k2⟩
  · rintro r s1 ⟨v1, v2, rfl, hb, o1, h1, k1⟩
    rw [hlen] at hb o1 h1
    exact ⟨hb, h1, k1⟩
end DL
end
/-! ### G8 -/
section
set_option linter.all false
set_option maxRecDepth 100000
set_option maxHeartbeats 4000000
/-! G8: new accounts, what is lost, things drawn; alike in kind. -/
namespace DL
open PySem PySem.Spec L2
open PyProof.Rows hiding St
theorem lthing_spec (A : Str → Addr) {s : Sto} (h : HS s) : RW (l_law_thing A [.loc 2] s) fun v s' => ThD v ∧ Ext s s' ∧ HS s' := by
  have hl := h.len
  unfold l_law_thing
  rw [RW_def]
  refine ⟨rfl, ?_⟩
  simp
  refine (draw_spec A (many := 4) (by omega) h).imp fun v1 s1 ⟨r, e, hr0, hr1, h1, f1⟩ => ?_
  subst e
  simp
  by_cases hr : r = 0
  · right
    exact ⟨hr, .inl rfl, f1.ext, h1⟩
  · left
    refine ⟨hr, ?_⟩
    refine (draw_spec A (many := 4) (by omega) h1).imp fun v2 s2 ⟨r2, e, hr20, hr21, h2, f2⟩ => ?_
    subst e
    refine (draw_spec A (many := 3) (by omega) h2).imp fun v3 s3 ⟨r3, e, hr30, hr31, h3, f3⟩ => ?_
    subst e
    refine (draw_spec A (many := 1000) (by omega) h3).imp fun v4 s4 ⟨r4, e, hr40, hr41, h4, f4⟩ => ?_
    subst e
    have hl4 := h4.len
    refine ⟨small24 (by omega), ?_⟩
    refine (any_spec A (xs := [.int 0, .int 1, .int 7, .int 1000000, .int r4]) h4.push (.inr ⟨s4.length, by omega, rfl, last_of⟩) (by simp) (by simp)).imp fun v5 s5 ⟨hv, h5, f5⟩ => ?_
    refine ⟨small24 (by omega), ?_, ?_, h5⟩
    · right
      simp at hv
      rcases hv with rfl | rfl | rfl | rfl | rfl
      all_goals exact ⟨_, _, _, rfl, by omega, by omega, by omega⟩
    · exact ((((f1.ext).trans f2.ext).trans f3.ext).trans f4.ext).trans ((Ext.refl.push).trans f5.ext)
/-! ### many new lists -/
theorem new_lists {gs : List (Nat × Ob)} {r : Env} {n i1 : Nat} {ds : List D} {s : Sto} {Q : List D → Sto → Prop} (hn : n = ds.length) (hl : n ≤ 2000) (hg : ∀ i, i ≤ n → guard gs (s ++ List.replicate i (Ob.lst [])) = true)
    (q : Q ((List.range n).map fun i => D.loc (s.length + i)) (s ++ List.replicate n (Ob.lst []))) : RW (mLcGo gs (mgName i1) mYes (mNew (mLst mNil)) r ds s []) Q := by
  refine RW_lcGo (fun i s1 acc => i ≤ n ∧ s1 = s ++ List.replicate i (Ob.lst []) ∧ acc = (List.range i).map fun i => D.loc (s.length + i)) ⟨Nat.zero_le _, by simp, rfl⟩ ?_ ?_ ?_
  · rintro i s1 acc hi ⟨hin, rfl, rfl⟩
    exact hg i hin
  · rintro i d s1 acc hd ⟨hin, rfl, rfl⟩
    have hi := (List.getElem?_eq_some_iff.mp hd).1
    simp
    refine ⟨by rw [sizeLine_eq]; omega, by omega, ?_⟩
    exact ⟨List.replicate_succ'.symm, by rw [List.range_succ, List.map_append]; simp⟩
  · rintro s1 acc ⟨_, rfl, rfl⟩
    rw [← hn]
    exact q
theorem account_spec (A : Str → Addr) {s : Sto} {n : Nat} (h0 : 1 ≤ n) (h1 : n ≤ 2000) :
    RW (l_law_account A [.int (n : Int)] s) fun v s' => ∃ a G, v = .loc a ∧ Ac s' a (Dst.at0 n (List.replicate n (.tup [])) 0) G ∧ Kp [] s s' ∧ ∀ k ∈ G, s.length ≤ k := by
  unfold l_law_account
  rw [RW_def]
  refine ⟨rfl, ?_⟩
  rw [SW_ret, RW_newD]
  unfold mDisp
  simp only [mEnts]
  simp
  refine ⟨one_le_size, ?_⟩
  have hm : gMul (.loc s.length) (.int (n : Int)) (s ++ [Ob.lst [D.tup []]]) = some (.loc (s.length + 1), s ++ [Ob.lst [D.tup []], Ob.lst (List.replicate n (.tup []))]) := by
    simp only [gMul, last_of]
    rw [if_pos ⟨by omega, by omega, by simp; rw [sizeLine_eq]; omega⟩]
    simp
  rw [hm]
  simp only [RW_of_some]
  refine ⟨by omega, ?_⟩
  generalize hL : List.replicate n (D.tup []) = L
  have hLl : L.length = n := by rw [← hL]; simp
  generalize hs1 : s ++ [Ob.lst [D.tup []], Ob.lst L] = s1
  have l1 : s1.length = s.length + 2 := by rw [← hs1]; simp
  have k1 : Kp [] s s1 := by rw [← hs1]; exact Kp.refl.push
  have q1 : s1[s.length + 1]? = some (.lst L) := by rw [← hs1]; simp
  refine new_lists (n := n) (by simp) h1 (fun _ _ => rfl) ?_
  have l2 : (s1 ++ List.replicate n (Ob.lst [])).length = s.length + 2 + n := by simp [l1]
  generalize hs2 : s1 ++ List.replicate n (Ob.lst []) = s2 at *
  have q2 : ∀ {k : Nat} {ob : Ob}, s1[k]? = some ob → s2[k]? = some ob := fun e => by rw [← hs2]; exact get_push e
  have q3 : ∀ i, i < n → s2[s1.length + i]? = some (.lst []) := fun i hi => by
    rw [← hs2, List.getElem?_append_right (by omega), Nat.add_sub_cancel_left, List.getElem?_replicate]
    rw [if_pos hi]
  have k2 : Kp [] s s2 := by rw [← hs2]; exact k1.push
  show ∃ x, Ac ((s2 ++ [Ob.lst ((List.range n).map fun i => D.loc (s1.length + i))]) ++ [Ob.dct (acD (s.length + 1) s2.length (Dst.at0 n L 0))]) (s2 ++ [Ob.lst ((List.range n).map fun i => D.loc (s1.length + i))]).length (Dst.at0 n L 0) x ∧ _
  refine ⟨(s2 ++ [Ob.lst ((List.range n).map fun i => D.loc (s1.length + i))]).length :: (s.length + 1) :: s2.length :: (List.range n).map fun i => s1.length + i, ⟨s.length + 1, s2.length, (List.range n).map fun i => s1.length + i, rfl, last_of, get_push (get_push (q2 q1)), ?_, by simp [Dst.at0], fun i x hx => ?_, ?_⟩, k2.push.push, fun k hk => ?_⟩
  · rw [List.map_map]
    exact get_push last_of
  · rw [List.getElem?_map] at hx
    simp only [Option.map_eq_some_iff] at hx
    obtain ⟨j, hj, rfl⟩ := hx
    have hjn := List.mem_range.mp (List.mem_of_getElem? hj)
    have hin := (List.getElem?_eq_some_iff.mp hj).1
    simp at hin
    refine ⟨[], ?_, get_push (get_push (q3 j hjn))⟩
    show (List.replicate n ([] : List D))[i]? = _
    rw [List.getElem?_replicate, if_pos hin]
  · simp only [List.nodup_cons, List.mem_cons, not_or, List.mem_map, List.mem_range]
    refine ⟨⟨by omega, ?_⟩, ?_, ?_⟩
    · rintro ⟨i, hi, e⟩; omega
    · rintro ⟨i, hi, e⟩; omega
    · exact List.pairwise_map.mpr (List.Pairwise.imp (fun hne e => hne (by omega)) List.nodup_range)
  · simp only [List.mem_cons, List.mem_map, List.mem_range] at hk
    rcases hk with rfl | rfl | rfl | ⟨i, hi, rfl⟩
    · simp; omega
    · omega
    · omega
    · omega
theorem lost_spec (A : Str → Addr) {s : Sto} {a n : Nat} {S : Dst} {G : List Nat} (h : Ac s a S G) (o : S.Ok n) :
    RW (l_law_lost A [.loc a] s) fun v s' => v = .non ∧ ∃ G', Ac s' a (Dst.at0 n S.ly S.rc) G' ∧ Kp G s s' ∧ ∀ k ∈ G', k ∈ G ∨ s.length ≤ k := by
  obtain ⟨l, w, p, hG, h⟩ := h
  have hob := h.ob
  have hly := h.ly
  have aN := h.aN
  have n1 := o.n1
  have hal := len_of hob
  have hll := len_of hly
  simp only [List.mem_cons, not_or] at aN
  obtain ⟨e1, e2, e3, e4⟩ := gIx_ac hob
  unfold l_law_lost
  simp [e1]
  refine ⟨S.ly, _, src_lst hly, ?_⟩
  refine new_lists (n := n) (by rw [o.ly]) n1 (fun i _ => by simpa using get_push hly) ?_
  have l2 : (s ++ List.replicate n (Ob.lst [])).length = s.length + n := by simp
  have q3 : ∀ i, i < n → (s ++ List.replicate n (Ob.lst []))[s.length + i]? = some (.lst []) := fun i hi => by
    rw [List.getElem?_append_right (by omega), Nat.add_sub_cancel_left, List.getElem?_replicate]
    rw [if_pos hi]
  have q2 : ∀ {k : Nat} {ob : Ob}, s[k]? = some ob → (s ++ List.replicate n (Ob.lst []))[k]? = some ob := fun e => get_push e
  have k2 : Kp G s (s ++ List.replicate n (Ob.lst [])) := Kp.refl.push
  generalize hs2 : s ++ List.replicate n (Ob.lst []) = s2 at *
  refine ⟨_, gSet_str (get_push (q2 hob)) (by simp), ?_⟩
  rw [put_wt]
  refine ⟨_, gSet_str (get_set_eq (get_push (q2 hob))) (by simp), ?_⟩
  rw [show dPut (acD l s2.length S) (.inr "power") D.non = acD l s2.length (Dst.at0 n S.ly S.rc) from rfl]
  simp only [List.set_set]
  refine ⟨a :: l :: s2.length :: (List.range n).map fun i => s.length + i, ⟨l, s2.length, (List.range n).map fun i => s.length + i, rfl, get_set_eq (get_push (q2 hob)), get_set_ne (get_push (q2 hly)) aN.1, ?_, by simp [Dst.at0], fun i x hx => ?_, ?_⟩, (k2.push).set (.inl (by rw [hG]; simp)), fun k hk => ?_⟩
  · rw [List.map_map]
    exact get_set_ne last_of (by omega)
  · rw [List.getElem?_map] at hx
    simp only [Option.map_eq_some_iff] at hx
    obtain ⟨j, hj, rfl⟩ := hx
    have hjn := List.mem_range.mp (List.mem_of_getElem? hj)
    have hin := (List.getElem?_eq_some_iff.mp hj).1
    simp at hin
    refine ⟨[], ?_, get_set_ne (get_push (q3 j hjn)) (by omega)⟩
    show (List.replicate n ([] : List D))[i]? = _
    rw [List.getElem?_replicate, if_pos hin]
  · simp only [List.nodup_cons, List.mem_cons, not_or, List.mem_map, List.mem_range]
    refine ⟨⟨by omega, ?_⟩, ?_, ?_⟩
    · rintro ⟨i, hi, e⟩; omega
    · rintro ⟨i, hi, e⟩; omega
    · exact List.pairwise_map.mpr (List.Pairwise.imp (fun hne e => hne (by omega)) List.nodup_range)
  · rw [hG]
    simp only [List.mem_cons, List.mem_map, List.mem_range] at hk ⊢
    rcases hk with rfl | rfl | rfl | ⟨i, hi, rfl⟩
    · simp
    · simp
    · right; omega
    · right; omega
end DL
end
/-! ### G9 -/
section
set_option linter.all false
set_option maxRecDepth 100000
set_option maxHeartbeats 4000000
/-! G9: alike in kind; what a disk is to be. -/
namespace DL
open PySem PySem.Spec L2
open PyProof.Rows hiding St
theorem iTs_tup {s : Sto} {xs : List D} : gIsiTs [.tup xs, .tup [.con (.ty "tuple"), .con (.ty "list")]] s = some (.bl true, s) := by simp [gIsiTs, tyD, kitsB]
theorem iTs_int {s : Sto} {i : Int} : gIsiTs [.int i, .tup [.con (.ty "tuple"), .con (.ty "list")]] s = some (.bl false, s) := by simp [gIsiTs, tyD, kitsB]
theorem iTs_lst {s : Sto} {n : Nat} {xs : List D} (h : s[n]? = some (.lst xs)) : gIsiTs [.loc n, .tup [.con (.ty "tuple"), .con (.ty "list")]] s = some (.bl true, s) := by simp [gIsiTs, tyD, kitsB, h]
theorem is_int (A : Str → Addr) {k : Nat} {a : Int} {s : Sto} : l_law_is_2 A (k + 1) [.int a, .int a] s = .ok (.bl true) s := by
  apply RW.eq
  show RW (l_law_is_20 A (l_law_is_2 A k) [.int a, .int a] s) _
  unfold l_law_is_20
  simp [iTs_int]
  exact small24 (by omega)
theorem all_is {self : MF} {gs : List (Nat × Ob)} {r : Env} {s : Sto} {xs : List D} (hr : r.length = 4) (hg : guard gs s = true) (hl : xs.length ≤ 1000) (h : ∀ x ∈ xs, self [x, x] s = .ok (.bl true) s) :
    RW (mLcGo gs (mgTup 2 (mgCons (mgName 2) (mgCons (mgName 3) mgNil))) mYes (mCall self (mCons (mVar 2) (mCons (mVar 3) mNil))) r (xs.map fun x => D.tup [x, x]) s []) fun ds s1 => gAll ds = some (D.bl true) ∧ s1 = s := by
  refine lc_rw (f := fun _ => .bl true) (b := fun _ => true) hg (by simp; exact small24 (by omega)) ?_ ?_
  · intro e he
    obtain ⟨x, hx, rfl⟩ := List.mem_map.mp he
    simp [hr, h x hx]
  · rw [List.filter_eq_self.mpr fun _ _ => rfl]
    have e1 : (List.map (fun x => D.tup [x, x]) xs).map (fun _ => D.bl true) = (xs.map fun _ => true).map .bl := by rw [List.map_map, List.map_map]; rfl
    rw [e1, all_bls]
    exact ⟨by congr 2; simp, rfl⟩
theorem is_th (A : Str → Addr) {k : Nat} {t : D} {s : Sto} (h : ThD t) : l_law_is_2 A (k + 2) [t, t] s = .ok (.bl true) s := by
  apply RW.eq
  show RW (l_law_is_20 A (l_law_is_2 A (k + 1)) [t, t] s) _
  unfold l_law_is_20
  rcases h with rfl | ⟨a, b, c, rfl, _⟩
  · simp [iTs_tup]
    refine ⟨small24 (by omega), [], [], ⟨rfl, rfl⟩, [], [], ⟨rfl, rfl⟩, ?_⟩
    exact all_is (xs := []) rfl rfl (by simp) (by simp)
  · simp [iTs_tup]
    refine ⟨small24 (by omega), ?_⟩
    refine all_is (xs := [.int a, .int b, .int c]) rfl rfl (by simp) ?_
    intro x hx
    simp at hx
    rcases hx with rfl | rfl | rfl <;> exact is_int A
theorem zip_same : ∀ {xs : List D}, List.zipWith (fun x y => D.tup [x, y]) xs xs = xs.map fun x => D.tup [x, x]
  | [] => rfl
  | x :: xs => by simp [zip_same]
theorem is_lst (A : Str → Addr) {k m m' : Nat} {xs : List D} {s : Sto} (h1 : s[m]? = some (.lst xs)) (h2 : s[m']? = some (.lst xs)) (hl : xs.length ≤ 100) (h : ∀ x ∈ xs, ∃ i : Int, x = .int i) : l_law_is_2 A (k + 2) [.loc m, .loc m'] s = .ok (.bl true) s := by
  apply RW.eq
  show RW (l_law_is_20 A (l_law_is_2 A (k + 1)) [.loc m, .loc m'] s) _
  generalize hN : (xs.length : Int) = N
  have g1 : gLen [.loc m] s = some (.int N, s) := by rw [gLen_lst h1, hN]
  have g2 : gLen [.loc m'] s = some (.int N, s) := by rw [gLen_lst h2, hN]
  have t1 : gIsi [.loc m, .con (.ty "tuple")] s = some (.bl false, s) := by simp [gIsi, tyD, h1]
  have t2 : gIsi [.loc m', .con (.ty "tuple")] s = some (.bl false, s) := by simp [gIsi, tyD, h2]
  unfold l_law_is_20
  simp [iTs_lst h1, iTs_lst h2, t1, t2, g1, g2]
  refine ⟨small24 (by omega), xs, _, src_lst h1, xs, _, src_lst h2, ?_⟩
  rw [zip_same]
  refine all_is rfl ?_ (by omega) fun x hx => ?_
  · rw [guard_two]
    simp [h1, h2]
  · obtain ⟨i, rfl⟩ := h x hx
    exact is_int A
/-! ### things as data -/
def pyT : D → PyData
  | .tup xs => .tuple (xs.map fun x => match x with
    | .int i => .int i
    | _ => .none)
  | _ => .none
theorem py_th {g : Nat → Option PyData} {t : D} (h : ThD t) : D.pyW g t = some (pyT t) := by
  rcases h with rfl | ⟨a, b, c, rfl, _⟩ <;> simp [D.pyW, D.pysW, pyT]
theorem pys_th {g : Nat → Option PyData} : ∀ {z : List D}, (∀ x ∈ z, ThD x) → D.pysW g z = some (z.map pyT)
  | [], _ => rfl
  | t :: z, h => by
    have h1 := py_th (g := g) (h t (by simp))
    have h2 := pys_th (g := g) (z := z) fun x hx => h x (by simp [hx])
    simp [D.pysW, h1, h2]
theorem lay_th {t : D} (h : ThD t) : (pyT t).canLay0 = true ∧ (pyT t).depth ≤ 1 := by
  rcases h with rfl | ⟨a, b, c, rfl, _⟩ <;> simp [pyT, PyData.canLay0, PyData.canLayAll0, PyData.depth, PyData.depthAll]
theorem lays_th : ∀ {z : List D}, (∀ x ∈ z, ThD x) → PyData.canLayAll0 (z.map pyT) = true ∧ PyData.depthAll (z.map pyT) ≤ 1
  | [], _ => by simp [PyData.canLayAll0, PyData.depthAll]
  | t :: z, h => by
    have h1 := lay_th (h t (by simp))
    have h2 := lays_th (z := z) fun x hx => h x (by simp [hx])
    simp only [List.map_cons, PyData.canLayAll0, PyData.depthAll]
    exact ⟨by rw [h1.1, h2.1]; rfl, by omega⟩
theorem gNe_nil {s : Sto} {x m : Nat} {z : List D} (h1 : s[x]? = some (.lst z)) (h2 : s[m]? = some (.lst [])) (hz : ∀ t ∈ z, ThD t) : gNe (.loc x) (.loc m) s = some (.bl (decide (z ≠ [])), s) := by
  have e1 : (D.loc x).py s = some (.list (z.map pyT)) := by simp [D.py, D.pyW, locPy, h1, pys_th hz]
  have e2 : (D.loc m).py s = some (.list []) := by simp [D.py, D.pyW, locPy, h2, D.pysW]
  have s1 : SeqAt.shaped (.list (z.map pyT)) = true := by
    have := lays_th hz
    simp [SeqAt.shaped, PyData.canLay0, PyData.depth, this.1]
    omega
  have s2 : SeqAt.shaped (.list []) = true := by simp [SeqAt.shaped, PyData.canLay0, PyData.canLayAll0, PyData.depth, PyData.depthAll]
  simp only [gNe, eqB, e1, e2]
  rw [if_pos ⟨s1, s2⟩]
  cases z <;> simp [PyData.eqv, PyData.eqvAll]
theorem gNe_unit {s : Sto} {t : D} (h : ThD t) : gNe t (.tup []) s = some (.bl (thB t), s) := by
  rcases h with rfl | ⟨a, b, c, rfl, _⟩
  · simp [gNe, eqB, D.py, D.pyW, D.pysW, SeqAt.shaped, PyData.canLay0, PyData.canLayAll0, PyData.depth, PyData.depthAll, PyData.eqv, PyData.eqvAll, thB]
  · simp [gNe, eqB, D.py, D.pyW, D.pysW, SeqAt.shaped, PyData.canLay0, PyData.canLayAll0, PyData.depth, PyData.depthAll, PyData.eqv, PyData.eqvAll, thB]
end DL
end
/-! ### G10 -/
section
set_option linter.all false
set_option maxRecDepth 100000
set_option maxHeartbeats 4000000
/-! G10: a disk is what its account tells. -/
namespace DL
open PySem PySem.Spec L2
open PyProof.Rows hiding St
theorem RW_dictPr {m : ME} {r : Env} {s s1 : Sto} {Q : List (Key × D) → Sto → Prop} {l : Nat} {ds : List D} {kvs : List (Key × D)} (h1 : m r s = .ok (.loc l) s1) (h2 : s1[l]? = some (.lst ds)) (h3 : pairsD ds = some kvs)
    (q : Q (kvs.foldl (fun acc kv => dPut acc kv.1 kv.2) []) s1) : RW (mDictPr m r s) Q := by
  unfold mDictPr
  rw [h1]
  simp only [R.bind_ok, h2, h3]
  exact q
def Dst.w (S : Dst) (c : Nat) : List D := S.wt.getD c []
theorem w_of {S : Dst} {c : Nat} {z : List D} (h : S.wt[c]? = some z) : S.w c = z := getD_of h
theorem keys_w {n : Nat} {S : Dst} : S.keys n = (List.range n).filter fun c => decide (S.w c ≠ []) := rfl
abbrev lenK (ks : List Nat) (S : Dst) : List (Key × D) := ks.map fun (c : Nat) => ((Sum.inl (c : Int) : Key), D.int ((S.w c).length : Int))
theorem pairs_lenK {S : Dst} : ∀ ks : List Nat, pairsD (ks.map fun (c : Nat) => D.tup [.int (c : Int), .int ((S.w c).length : Int)]) = some (lenK ks S)
  | [] => rfl
  | c :: ks => by simp [pairsD, keyD, pairs_lenK ks, lenK]
theorem intsF_lenK {S : Dst} : ∀ ks : List Nat, intsF (lenK ks S) = some (ks.map fun (c : Nat) => ((Sum.inl (c : Int) : Key), ((S.w c).length : Int)))
  | [] => rfl
  | c :: ks => by
    have ih := intsF_lenK (S := S) ks
    simp only [lenK] at ih
    simp [intsF, lenK, ih]
theorem find_fn {f : Nat → Int} {c : Nat} : ∀ {ks : List Nat}, c ∈ ks → ((ks.map fun (c : Nat) => ((Sum.inl (c : Int) : Key), f c)).find? fun q => decide (q.1 = Sum.inl (c : Int))).map (·.2) = some (f c)
  | b :: ks, h => by
    by_cases e : b = c
    · subst e
      simp
    · have hc : c ∈ ks := by
        rcases List.mem_cons.mp h with h | h
        · exact absurd h.symm e
        · exact h
      have h2 : ¬ ((Sum.inl (b : Int) : Key) = Sum.inl (c : Int)) := fun q => e (key_eq.mp q)
      rw [List.map_cons, List.find?_cons_of_neg (by simpa using h2)]
      exact find_fn hc
theorem dSame_fn {f : Nat → Int} {ks ks' : List Nat} (h : ∀ c ∈ ks, c ∈ ks') : dSame (ks'.map fun (c : Nat) => ((Sum.inl (c : Int) : Key), f c)) (ks.map fun (c : Nat) => ((Sum.inl (c : Int) : Key), f c)) = true := by
  unfold dSame
  rw [List.all_map, List.all_eq_true]
  intro c hc
  simp only [Function.comp, decide_eq_true_eq]
  exact find_fn (h c hc)
theorem dGet_fn {S : Dst} {c : Nat} : ∀ {ks : List Nat}, c ∈ ks → dGet (lenK ks S) (.inl (c : Int)) = some (.int ((S.w c).length : Int))
  | b :: ks, h => by
    unfold dGet lenK
    by_cases e : b = c
    · subst e
      simp
    · have hc : c ∈ ks := by
        rcases List.mem_cons.mp h with h | h
        · exact absurd h.symm e
        · exact h
      have h2 : ¬ ((Sum.inl (b : Int) : Key) = Sum.inl (c : Int)) := fun q => e (key_eq.mp q)
      rw [List.map_cons, List.find?_cons_of_neg (by simpa using h2)]
      exact dGet_fn hc
theorem ldisk_is (A : Str → Addr) {s : Sto} {d a n : Nat} {S : Dst} {F G : List Nat} (h : Dk A s d S F) (g : Ac s a S G) (o : S.Ok n) :
    RW (l_law_disk_is A [.loc d, .loc a] s) fun v s' => v = .bl true ∧ Kp [] s s' := by
  have n0 := o.n0
  have n1 := o.n1
  unfold l_law_disk_is
  rw [RW_def]
  refine ⟨rfl, ?_⟩
  obtain ⟨N, hN⟩ : ∃ N : Int, N = (n : Int) := ⟨_, rfl⟩
  have g0 := g
  obtain ⟨l, w, p, hG, g0⟩ := g0
  obtain ⟨e1, e2, e3, e4⟩ := gIx_ac g0.ob
  rw [SW_seq]
  refine SW.midr (fun r s1 => r = [some (.loc d), some (.loc a), some (.int N), none, none, none, none, none] ∧ s1 = s) ?_ ?_
  · simp [e1]
    rw [gLen_lst g0.ly, o.ly, ← hN]
    simp
  rintro r s1 ⟨rfl, rfl⟩
  rw [SW_seq]
  refine SW.midr (fun r s2 => (∃ v3, r = [some (.loc d), some (.loc a), some (.int N), v3, none, none, none, none]) ∧ Kp [] s1 s2) ?_ ?_
  · rw [SW_for]
    simp
    refine ⟨by omega, by omega, ?_⟩
    rw [show N.toNat = n from by omega]
    refine SW_forGo (fun i r s2 => (∃ v3, r = [some (.loc d), some (.loc a), some (.int N), v3, none, none, none, none]) ∧ Kp [] s1 s2) ⟨⟨_, rfl⟩, Kp.refl⟩ (by intros; rfl) ?_ ?_
    · rintro i dd r s2 hdd ⟨⟨v3, rfl⟩, k2⟩
      obtain ⟨hin, rfl⟩ := range_get hdd
      have h2 := h.keep k2 fun _ _ => by simp
      have g2 := g.keep k2 fun _ _ => by simp
      obtain ⟨l, w, p, hG, gg⟩ := g2
      obtain ⟨e1, e2, e3, e4⟩ := gIx_ac gg.ob
      have hil : i < S.ly.length := by rw [o.ly]; exact hin
      have hiw : i < S.wt.length := by rw [o.wt]; exact hin
      have hly : S.ly[i]? = some (S.ly.getD i .non) := by rw [getD_of (List.getElem?_eq_getElem hil), List.getElem?_eq_getElem hil]
      generalize S.ly.getD i .non = t at hly
      have htT : ThD t := o.tl t (List.mem_of_getElem? hly)
      obtain ⟨x, hx⟩ : ∃ x, p[i]? = some x := ⟨_, List.getElem?_eq_getElem (by rw [gg.len]; exact hiw)⟩
      obtain ⟨z, hz, hsx⟩ := gg.ps i x hx
      have hzT := o.tw z (List.mem_of_getElem? hz)
      have hpc : atI (p.map D.loc) (i : Int) = some (.loc x) := atI_in (by omega) (by rw [Int.toNat_natCast, List.getElem?_map, hx]; rfl)
      have hlt : atI S.ly (i : Int) = some t := atI_in (by omega) (by rw [Int.toNat_natCast]; exact hly)
      obtain ⟨l', w', q', _, hd⟩ := id h2
      have hrd : S.rd i = (t :: z).getLast (by simp) := by
        unfold Dst.rd
        rw [getD_of hz, getD_of hly]
        cases z with
        | nil => rfl
        | cons b r =>
          rw [List.getLast?_eq_some_getLast (l := b :: r) (by simp)]
          exact (List.getLast_cons (by simp)).symm
      have hrT : ThD (S.rd i) := by
        rw [hrd]
        have hm := List.getLast_mem (l := t :: z) (by simp)
        rcases List.mem_cons.mp hm with e | e
        · rw [e]; exact htT
        · exact hzT.1 _ e
      rw [RW_gName]
      simp
      refine ⟨_, hd.ob, lk_dk (by decide), ?_⟩
      rw [lying_ok A h2 o hin hly, RW_ok, e1, RW_of_some, gIx_lst gg.ly, hlt]
      simp only [Option.map_some, RW_of_some]
      rw [is_th A (k := 6) htT, RW_ok]
      refine ⟨rfl, _, hd.ob, lk_dk (by decide), ?_⟩
      rw [read_ok A h2 o hin, RW_ok, e1, RW_of_some, gIx_lst gg.ly, hlt]
      simp only [Option.map_some, RW_of_some]
      refine ⟨one_le_size, ?_⟩
      obtain ⟨f1, f2, f3, f4⟩ := gIx_ac (get_push (q := [Ob.lst [t]]) gg.ob)
      rw [f2, RW_of_some, gIx_lst (get_push gg.wt), hpc]
      simp only [Option.map_some, RW_of_some]
      rw [gAdd_rows last_of (get_push hsx) (small24 (by have := hzT.2; simp; omega))]
      simp only [RW_of_some]
      have lst2 : ((s2 ++ [Ob.lst [t]]) ++ [Ob.lst ([t] ++ z)])[(s2 ++ [Ob.lst [t]]).length]? = some (.lst ([t] ++ z)) := last_of
      rw [gIx_lst lst2, atI_last (by simp)]
      simp only [Option.map_some, RW_of_some]
      have er : ([t] ++ z).getLast (by simp) = S.rd i := hrd.symm
      rw [er, is_th A (k := 6) hrT, RW_ok]
      exact ⟨rfl, k2.push.push⟩
    · rintro r s2 ⟨⟨v3, rfl⟩, k2⟩
      exact ⟨⟨v3, rfl⟩, k2⟩
  rintro r s2 ⟨⟨v3, rfl⟩, k2⟩
  have h2 := h.keep k2 fun _ _ => by simp
  have g2 := g.keep k2 fun _ _ => by simp
  rw [SW_seq]
  refine SW.midr (fun r s3 => ∃ m4, r = [some (.loc d), some (.loc a), some (.int N), v3, some (.loc m4), none, none, none] ∧ s3[m4]? = some (.dct (lenK (S.keys n) S)) ∧ Kp [] s1 s3) ?_ ?_
  · rw [SW_asg, RW_newD]
    have key : ∃ (m : Nat) (s3 : Sto), mNew (mLc (mRg1 (mVar 2)) (mgName 3) (asB (mBin gNe (mBin gIx (mBin gIx (mVar 1) (mC (D.str (Str.ofString "waiting")))) (mVar 3)) (mNew (mLst mNil)))) (mTup (mCons (mVar 3) (mCons (mCallB gLen (mCons (mBin gIx (mBin gIx (mVar 1) (mC (D.str (Str.ofString "waiting")))) (mVar 3)) mNil)) mNil))) [3])
        [some (.loc d), some (.loc a), some (.int N), v3, none, none, none, none] s2 = .ok (.loc m) s3 ∧ s3[m]? = some (.lst ((S.keys n).map fun (c : Nat) => D.tup [.int (c : Int), .int ((S.w c).length : Int)])) ∧ Kp [] s1 s3 := by
      suffices hh : RW (mNew (mLc (mRg1 (mVar 2)) (mgName 3) (asB (mBin gNe (mBin gIx (mBin gIx (mVar 1) (mC (D.str (Str.ofString "waiting")))) (mVar 3)) (mNew (mLst mNil)))) (mTup (mCons (mVar 3) (mCons (mCallB gLen (mCons (mBin gIx (mBin gIx (mVar 1) (mC (D.str (Str.ofString "waiting")))) (mVar 3)) mNil)) mNil))) [3])
        [some (.loc d), some (.loc a), some (.int N), v3, none, none, none, none] s2) fun v s3 => ∃ m, v = .loc m ∧ s3[m]? = some (.lst ((S.keys n).map fun (c : Nat) => D.tup [.int (c : Int), .int ((S.w c).length : Int)])) ∧ Kp [] s1 s3 by
        obtain ⟨v, s3, e, m, rfl, b1, b2⟩ := hh.get
        exact ⟨m, s3, e, b1, b2⟩
      rw [RW_new, RW_lc]
      simp
      refine ⟨by omega, by omega, ?_⟩
      rw [show N.toNat = n from by omega]
      refine RW_lcGo (fun i s3 acc => i ≤ n ∧ Kp [] s1 s3 ∧ acc = ((List.range i).filter fun c => decide (S.w c ≠ [])).map fun (c : Nat) => D.tup [.int (c : Int), .int ((S.w c).length : Int)]) ⟨Nat.zero_le _, k2, rfl⟩ (by intros; rfl) ?_ ?_
      · rintro i dd s3 acc hdd ⟨_, k3, rfl⟩
        obtain ⟨hin, rfl⟩ := range_get hdd
        have g3 := g.keep k3 fun _ _ => by simp
        obtain ⟨l, w, p, hG, gg⟩ := g3
        obtain ⟨e1, e2, e3, e4⟩ := gIx_ac gg.ob
        have hiw : i < S.wt.length := by rw [o.wt]; exact hin
        obtain ⟨x, hx⟩ : ∃ x, p[i]? = some x := ⟨_, List.getElem?_eq_getElem (by rw [gg.len]; exact hiw)⟩
        obtain ⟨z, hz, hsx⟩ := gg.ps i x hx
        have hzT := o.tw z (List.mem_of_getElem? hz)
        have hpc : atI (p.map D.loc) (i : Int) = some (.loc x) := atI_in (by omega) (by rw [Int.toNat_natCast, List.getElem?_map, hx]; rfl)
        have hlen : (((List.range i).filter fun c => decide (S.w c ≠ [])).map fun (c : Nat) => D.tup [.int (c : Int), .int ((S.w c).length : Int)]).length ≤ i := by
          rw [List.length_map]
          exact Nat.le_trans (List.length_filter_le _ _) (by simp)
        have gl : S.w i = z := w_of hz
        rw [RW_gName]
        simp [wipeD]
        rw [e2, RW_of_some, gIx_lst gg.wt, hpc]
        simp only [Option.map_some, RW_of_some]
        rw [gNe_nil (get_push hsx) last_of hzT.1]
        simp
        by_cases hzn : z = []
        · left
          refine ⟨hzn, by omega, k3.push, ?_⟩
          rw [List.range_succ, List.filter_append]
          simp [gl, hzn]
        · right
          refine ⟨hzn, ?_⟩
          obtain ⟨f1, f2, f3, f4⟩ := gIx_ac (get_push (q := [Ob.lst ([] : List D)]) gg.ob)
          rw [f2, RW_of_some, gIx_lst (get_push gg.wt), hpc]
          simp only [Option.map_some, RW_of_some]
          rw [gLen_lst (get_push hsx)]
          simp
          refine ⟨small24 (by omega), ?_, by omega, k3.push, ?_⟩
          · rw [sizeLine_eq]
            have := List.length_filter_le (fun c => !decide (S.w c = [])) (List.range i)
            simp at this
            omega
          · rw [List.range_succ, List.filter_append]
            simp [gl, hzn]
      · rintro s3 acc ⟨_, k3, rfl⟩
        refine ⟨?_, k3.push⟩
        rw [keys_w]
        simp
    obtain ⟨m, s3, e, b1, b2⟩ := key
    refine RW_dictPr e b1 (pairs_lenK _) ?_
    rw [foldl_putN (by simpa using key_nodup (f := fun x : Nat => x) (g := fun c : Nat => D.int ((S.w c).length : Int)) (by rw [List.map_id']; exact List.nodup_range.filter _))]
    simp
    exact b2.push
  rintro r s3 ⟨m4, rfl, b4, k3⟩
  have h3 := h.keep k3 fun _ _ => by simp
  have g3 := g.keep k3 fun _ _ => by simp
  rw [SW_seq]
  refine SW.midr (fun r s4 => ∃ (m5 : Nat) (ks : List Nat), r = [some (.loc d), some (.loc a), some (.int N), v3, some (.loc m4), some (.loc m5), none, none] ∧ s4[m4]? = some (.dct (lenK (S.keys n) S)) ∧ s4[m5]? = some (.dct (lenK ks S)) ∧ m4 ≠ m5 ∧ ks.Nodup ∧ (∀ c, c ∈ ks ↔ c ∈ S.keys n) ∧ Kp [] s1 s4) ?_ ?_
  · rw [SW_asg]
    rw [dk_meth (x := "waiting") (f := l_Disk_waiting A) (ma := mNil) (i := 0) (ds := []) h3 (by decide) rfl rfl]
    refine (waiting_spec A h3 o).imp fun v s4 ⟨q, nd, hk, e, e2⟩ => ?_
    subst e e2
    rw [RW_gName]
    have e5 : lenQ q S = lenK (q.map (·.1)) S := by
      simp only [lenQ, lenK, List.map_map]
      rfl
    refine ⟨s3.length, q.map (·.1), rfl, get_push b4, by rw [← e5]; exact last_of, Nat.ne_of_lt (len_of b4), nd, hk, k3.push⟩
  rintro r s4 ⟨m5, ks, rfl, c4, c5, hne, nd, hk, k4⟩
  have h4 := h.keep k4 fun _ _ => by simp
  have g4 := g.keep k4 fun _ _ => by simp
  rw [SW_seq]
  have hkl : ks.length = (S.keys n).length := by
    have hp : ks.Perm (S.keys n) := (List.perm_ext_iff_of_nodup nd (List.nodup_range.filter _)).mpr hk
    exact hp.length_eq
  have hneD : ∀ {r : Env}, gNeD (.loc m5) (.loc m4) s4 = some (.bl false, s4) := by
    intro _
    simp only [gNeD, kvs_of c4, kvs_of c5, intsF_lenK]
    rw [dSame_fn (f := fun c => ((S.w c).length : Int)) (fun c hc => (hk c).mp hc)]
    simp [hkl]
  refine SW.midr (fun r s5 => r = [some (.loc d), some (.loc a), some (.int N), v3, some (.loc m4), some (.loc m5), none, none] ∧ s5 = s4) ?_ ?_
  · rw [SW_if]
    have hi : gIsi [.loc m5, .con (.ty "dict")] s4 = some (.bl true, s4) := by simp [gIsi, tyD, c5]
    simp [hi]
    rw [hneD (r := [])]
    simp
    refine RW_lock (l := m4) (kvs := lenK (S.keys n) S) (by simp [lockAt, mVar, c4]) ?_
    rw [RW_lc, RW_keys, RW_var]
    refine ⟨_, rfl, m4, _, rfl, get_set_eq c4, ?_⟩
    have hkn : (S.keys n).length ≤ n := by
      have := List.length_filter_le (fun c => decide (S.wt.getD c [] ≠ [])) (List.range n)
      simpa [Dst.keys] using this
    refine lc_rw (f := fun _ => .bl true) (b := fun _ => true) (by simpa using get_set_eq c4) (by simp; exact small24 (by omega)) ?_ ?_
    · intro e he
      simp only [lenK, List.map_map, List.mem_map] at he
      obtain ⟨c, hc, rfl⟩ := he
      have q1 : gIx (.loc m5) (.int (c : Int)) (s4.set m4 (Ob.lok (lenK (S.keys n) S))) = some (.int ((S.w c).length : Int), s4.set m4 (Ob.lok (lenK (S.keys n) S))) := by
        rw [gIx_dct (get_set_ne c5 hne)]
        simp only [keyD, Option.bind_some, dGet_fn ((hk c).mpr hc), Option.map_some]
      have q2 : gIx (.loc m4) (.int (c : Int)) (s4.set m4 (Ob.lok (lenK (S.keys n) S))) = some (.int ((S.w c).length : Int), s4.set m4 (Ob.lok (lenK (S.keys n) S))) := by
        rw [gIx_lok (get_set_eq c4)]
        simp only [keyD, Option.bind_some, dGet_fn hc, Option.map_some]
      simp [wipeD, keyV, q1, q2, is_int A (k := 7)]
    · rw [List.filter_eq_self.mpr fun _ _ => rfl]
      have e6 : (List.map (fun kv : Key × D => keyV kv.1) (lenK (S.keys n) S)).map (fun _ => D.bl true) = ((S.keys n).map fun _ => true).map .bl := by simp [lenK, Function.comp_def]
      rw [e6, all_bls]
      refine ⟨_, get_set_eq c4, _, rfl, by congr 1; simp, ?_⟩
      rw [List.set_set]
      apply List.ext_getElem?
      intro k
      by_cases hk2 : m4 = k
      · subst hk2
        rw [get_set_eq c4, c4]
      · rw [List.getElem?_set_ne hk2]
  rintro r s5 ⟨rfl, rfl⟩
  rw [SW_seq]
  refine SW.midr (fun r s6 => r = [some (.loc d), some (.loc a), some (.int N), v3, some (.loc m4), some (.loc m5), some (.int ((S.ly.filter thB).length : Int)), none] ∧ Kp [] s1 s6) ?_ ?_
  · obtain ⟨l, w, p, hG, gg⟩ := id g4
    obtain ⟨e1, e2, e3, e4⟩ := gIx_ac gg.ob
    have hl := o.ly
    simp [e1]
    refine ⟨S.ly, _, src_lst gg.ly, ?_⟩
    refine lc_rw (f := fun x => x) (b := thB) (by simpa using gg.ly) (small24 (by omega)) ?_ ?_
    · intro x hx
      simp [wipeD, gNe_unit (o.tl x hx)]
    · simp
      exact k4.push
  rintro r s6 ⟨rfl, k6⟩
  have h6 := h.keep k6 fun _ _ => by simp
  have g6 := g.keep k6 fun _ _ => by simp
  rw [SW_ret, RW_call, RW_cons, RW_new, RW_lst, RW_cons]
  rw [dk_meth (x := "many_cells") (f := l_Disk_many_cells A) (ma := mNil) (i := 0) (ds := []) h6 (by decide) rfl rfl, many_ok A h6 o, RW_ok, RW_cons]
  rw [dk_meth (x := "used") (f := l_Disk_used A) (ma := mNil) (i := 0) (ds := []) h6 (by decide) rfl rfl]
  refine (used_spec A h6 o).imp fun v s7 ⟨e, k7⟩ => ?_
  subst e
  have k67 : Kp [] s1 s7 := k6.trans k7 fun _ h => by cases h
  have h7 := h.keep k67 fun _ _ => by simp
  have g7 := g.keep k67 fun _ _ => by simp
  rw [RW_cons, dk_meth (x := "reached") (f := l_Disk_reached A) (ma := mNil) (i := 0) (ds := []) h7 (by decide) rfl rfl, reached_ok A (n := n) h7, RW_ok]
  obtain ⟨l, w, p, hG, gg⟩ := id g7
  have gg2 := get_push (q := [Ob.lst [.int (n : Int), .int ((S.ly.filter thB).length : Int), .int S.rc]]) gg.ob
  obtain ⟨e1, e2, e3, e4⟩ := gIx_ac gg2
  simp [e4]
  trace_state
  rw [hN, is_lst A (k := 6) (xs := [.int (n : Int), .int ((S.ly.filter thB).length : Int), .int S.rc]) (by simp) (by rw [List.getElem?_append_right (by omega), Nat.add_sub_cancel_left]; rfl) (by simp) (by simp)]
  exact ⟨small24 (by omega), rfl, k67.push⟩
end DL
end
/-! ### G11 -/
section
set_option linter.all false
set_option maxRecDepth 100000
set_option maxHeartbeats 4000000
/-! G11: what is asked. -/
namespace DL
open PySem PySem.Spec L2
open PyProof.Rows hiding St
theorem seq_nx {a b : MS} {r r1 : Env} {s s1 : Sto} (h : a r s = .nx r1 s1) : mSeq a b r s = b r1 s1 := by unfold mSeq; rw [h]
theorem ret_of {m : ME} {r : Env} {s s1 : Sto} {d : D} (h : m r s = .ok d s1) : mRet m r s = .rt d s1 := by unfold mRet; rw [h]
theorem try_nx {i : Nat} {cs : List (Addr × Bool)} {m : MS} {h : Addr → Addr → MS} {r r1 : Env} {s s1 : Sto} (e : m r s = .nx r1 s1) : mTry i cs m h r s = .nx r1 s1 := by unfold mTry; rw [e]
theorem nx_of {x : S} {r0 : Env} {s0 : Sto} (h : SW x (fun r s => r = r0 ∧ s = s0) (fun _ _ => False) (fun _ _ => False) (fun _ _ => False)) : x = .nx r0 s0 := by
  cases x <;> simp [SW] at h
  rw [h.1, h.2]
def namesQ : List D := [.str "disk", .str "cell", .str "thing", .str "nothing", .str "stopped", .str "number"]
end DL
end
/-! ### G12 -/
section
set_option linter.all false
set_option maxRecDepth 100000
set_option maxHeartbeats 4000000
/-! G12: rows of writes. -/
namespace DL
open PySem PySem.Spec L2
open PyProof.Rows hiding St
theorem put_w {S : Dst} {c a : Nat} {t : D} (hc : c < S.wt.length) : ((S.put c t).w a).length = (S.w a).length + if c = a then 1 else 0 := by
  unfold Dst.w
  show ((S.wt.set c (S.wt.getD c [] ++ [t])).getD a []).length = _
  by_cases h : c = a
  · subst h
    rw [List.getD_eq_getElem?_getD, List.getElem?_set_self hc]
    simp
  · rw [List.getD_eq_getElem?_getD, List.getElem?_set_ne h, ← List.getD_eq_getElem?_getD, if_neg h]
    rfl
theorem w_at0 {n c : Nat} {ly : List D} {rc : Int} : (Dst.at0 n ly rc).w c = [] := by
  unfold Dst.w Dst.at0
  rw [List.getD_eq_getElem?_getD, List.getElem?_replicate]
  split <;> rfl
theorem lput_spec (A : Str → Addr) {s : Sto} {a n c i j k : Nat} {S : Dst} {G : List Nat} {t : D} {r : Env} (h : Ac s a S G) (o : S.Ok n) (hc : c < n) (hl : (S.w c).length < 1000) (hi : r[i]? = some (some (.loc a))) (hj : r[j]? = some (some (.int (c : Int)))) (hk : r[k]? = some (some t)) :
    RW (mMB gAppend (mBin gIx (mBin gIx (mVar i) (mC (.str "waiting"))) (mVar j)) (mCons (mVar k) mNil) r s) fun _ s' => Ac s' a (S.put c t) G ∧ Kp G s s' := by
  obtain ⟨l, w, p, hG, h⟩ := h
  have aN := h.aN
  have hnd := h.nd
  simp only [List.mem_cons, not_or] at aN
  simp only [List.nodup_cons, List.mem_cons, not_or] at hnd
  have hcw : c < S.wt.length := by rw [o.wt]; exact hc
  obtain ⟨x, hx⟩ : ∃ x, p[c]? = some x := ⟨_, List.getElem?_eq_getElem (by rw [h.len]; exact hcw)⟩
  obtain ⟨z, hz, hsx⟩ := h.ps c x hx
  have hxp := List.mem_of_getElem? hx
  have hxa : x ≠ a := fun e => aN.2.2 (e ▸ hxp)
  have hxl : x ≠ l := fun e => hnd.1.2 (e ▸ hxp)
  have hxw : x ≠ w := fun e => hnd.2.1 (e ▸ hxp)
  obtain ⟨e1, e2, e3, e4⟩ := gIx_ac h.ob
  have hpc : atI (p.map D.loc) (c : Int) = some (.loc x) := atI_in (by omega) (by rw [Int.toNat_natCast, List.getElem?_map, hx]; rfl)
  have hzl : z.length < 1000 := by rw [w_of hz] at hl; exact hl
  rw [RW_MB, RW_bin, RW_bin, RW_var]
  refine ⟨_, hi, ?_⟩
  rw [RW_C, e2, RW_of_some, RW_var]
  refine ⟨_, hj, ?_⟩
  rw [gIx_lst h.wt, hpc]
  simp only [Option.map_some, RW_of_some]
  refine ⟨by simp [itL, hsx], ?_⟩
  rw [RW_cons, RW_var]
  refine ⟨_, hk, ?_⟩
  rw [RW_nil, append_lst hsx (by rw [sizeLine_eq]; omega)]
  rw [RW_of_some]
  have up : ∀ {k : Nat} {ob : Ob}, s[k]? = some ob → k ≠ x → (s.set x (.lst (z ++ [t])))[k]? = some ob := fun e hk => get_set_ne e (Ne.symm hk)
  have wt1 : (S.put c t).wt = S.wt.set c (z ++ [t]) := by simp [Dst.put, hz]
  refine ⟨⟨l, w, p, hG, up h.ob (Ne.symm hxa), up h.ly (Ne.symm hxl), up h.wt (Ne.symm hxw), by rw [wt1, List.length_set]; exact h.len, fun i' y hy => ?_, h.nd⟩, Kp.refl.set (.inl (by rw [hG]; simp [hxp]))⟩
  have hyp := List.mem_of_getElem? hy
  obtain ⟨z', z1, z2⟩ := h.ps i' y hy
  by_cases hic : i' = c
  · subst hic
    rw [hx] at hy
    cases hy
    exact ⟨_, by rw [wt1, List.getElem?_set_self hcw], get_set_eq hsx⟩
  · have hyx : y ≠ x := fun e => hic ((List.getElem?_inj (List.getElem?_eq_some_iff.mp hy).1 hnd.2.2).mp (by rw [hy, hx, e]))
    exact ⟨z', by rw [wt1, List.getElem?_set_ne (Ne.symm hic)]; exact z1, up z2 hyx⟩
/-! ### what lies ahead of a turn stays -/
structure Bas (b : Nat) (s0 s : Sto) : Prop where
  le : b ≤ s.length
  hs : HS s
  eq : ∀ k, k < b → k ≠ 2 → s[k]? = s0[k]?
theorem Bas.kp {b : Nat} {s0 s s' : Sto} {F : List Nat} (h : Bas b s0 s) (k : Kp F s s') (hF : ∀ x ∈ F, b ≤ x) (h3 : 3 ≤ b) : Bas b s0 s' :=
  ⟨Nat.le_trans h.le k.1, k.hs h.hs (fun e => absurd (hF _ e) (by omega)) (fun e => absurd (hF _ e) (by omega)), fun j hj h2 => (k.2 j (Nat.lt_of_lt_of_le hj h.le) fun e => absurd (hF _ e) (by omega)).trans (h.eq j hj h2)⟩
theorem Bas.ext {b : Nat} {s0 s s' : Sto} (h : Bas b s0 s) (e : Ext s s') (hs : HS s') : Bas b s0 s' :=
  ⟨Nat.le_trans h.le e.1, hs, fun j hj h2 => (e.2 j h2 (Nat.lt_of_lt_of_le hj h.le)).trans (h.eq j hj h2)⟩
theorem Bas.get {b : Nat} {s0 s : Sto} (h : Bas b s0 s) {k : Nat} {ob : Ob} (e : s0[k]? = some ob) (hk : k < b) (h2 : k ≠ 2) : s[k]? = some ob := by rw [h.eq k hk h2]; exact e
/-- a disk and an account of the same state, apart -/
structure Two (A : Str → Addr) (n b : Nat) (s : Sto) (d a : Nat) (S : Dst) (F G : List Nat) : Prop where
  dk : Dk A s d S F
  ac : Ac s a S G
  ok : S.Ok n
  dj : ∀ x ∈ F, x ∉ G
  fb : ∀ x ∈ F, b ≤ x
  gb : ∀ x ∈ G, b ≤ x
theorem sep_new {F F' G : List Nat} {s : Sto} (hn : ∀ k ∈ F', k ∈ F ∨ s.length ≤ k) (dj : ∀ x ∈ F, x ∉ G) (hG : ∀ x ∈ G, x < s.length) : ∀ x ∈ F', x ∉ G := fun x hx hg =>
  (hn x hx).elim (fun q => dj x q hg) fun q => absurd (hG x hg) (by omega)
theorem Two.lt {A : Str → Addr} {n b : Nat} {s : Sto} {d a : Nat} {S : Dst} {F G : List Nat} (t : Two A n b s d a S F G) : (∀ x ∈ F, x < s.length) ∧ ∀ x ∈ G, x < s.length := ⟨t.dk.lt, t.ac.lt⟩
theorem Two.keep {A : Str → Addr} {n b : Nat} {s s' : Sto} {d a : Nat} {S : Dst} {F G H : List Nat} (t : Two A n b s d a S F G) (k : Kp H s s') (h1 : ∀ x ∈ F, x ∉ H) (h2 : ∀ x ∈ G, x ∉ H) : Two A n b s' d a S F G :=
  ⟨t.dk.keep k h1, t.ac.keep k h2, t.ok, t.dj, t.fb, t.gb⟩
theorem Two.ext {A : Str → Addr} {n b : Nat} {s s' : Sto} {d a : Nat} {S : Dst} {F G : List Nat} (t : Two A n b s d a S F G) (e : Ext s s') (h3 : 3 ≤ b) : Two A n b s' d a S F G :=
  t.keep e.kp (fun x hx hm => by rw [List.mem_singleton.mp hm] at hx; have := t.fb _ hx; omega) fun x hx hm => by rw [List.mem_singleton.mp hm] at hx; have := t.gb _ hx; omega
/-- one write, into both -/
theorem Two.put (A : Str → Addr) {n b : Nat} {s0 s : Sto} {d a c i1 i2 i3 i4 : Nat} {S : Dst} {F G : List Nat} {t : D} {r : Env} (h3 : 3 ≤ b) (u : Two A n b s d a S F G) (B : Bas b s0 s) (hc : c < n) (ht : ThD t) (hl : (S.w c).length < 1000)
    (r1 : r[i1]? = some (some (.loc d))) (r2 : r[i2]? = some (some (.loc a))) (r3 : r[i3]? = some (some (.int (c : Int)))) (r4 : r[i4]? = some (some t)) {Q : Env → Sto → Prop} {Qr : D → Sto → Prop} {Qb Qc : Env → Sto → Prop}
    (q : ∀ s' F', Two A n b s' d a (S.put c t) F' G → Bas b s0 s' → Kp (F ++ G) s s' → (∀ k ∈ F', k ∈ F ∨ s.length ≤ k) → Q r s') :
    SW (mSeq (mDrop (mMeth (A "Disk") "write" (l_Disk_write A) (mVar i1) (mCons (mVar i3) (mCons (mVar i4) mNil)))) (mDrop (mMB gAppend (mBin gIx (mBin gIx (mVar i2) (mC (.str "waiting"))) (mVar i3)) (mCons (mVar i4) mNil))) r s) Q Qr Qb Qc := by
  have hb := B.le
  rw [SW_seq, SW_drop, dk_meth (x := "write") (f := l_Disk_write A) (ma := mCons (mVar i3) (mCons (mVar i4) mNil)) (i := i1) (ds := [.int (c : Int), t]) u.dk (by decide) r1 (by simp [mCons, mNil, mVar, r3, r4])]
  refine (write_spec A u.dk u.ok hc ht hl).imp fun v s1 ⟨_, F', g1, k1, f1⟩ => ?_
  have hlt := u.lt
  have a1 := u.ac.keep k1 fun x hx hm => u.dj x hm hx
  have dj1 := sep_new f1 u.dj hlt.2
  have fb1 : ∀ x ∈ F', b ≤ x := fun x hx => (f1 x hx).elim (u.fb x) fun q => by omega
  rw [SW_drop]
  refine (lput_spec A a1 u.ok hc hl r2 r3 r4).imp fun v s2 ⟨a2, k2⟩ => ?_
  have B2 := (B.kp k1 u.fb h3).kp k2 u.gb h3
  exact q s2 F' ⟨g1.keep k2 dj1, a2, u.ok.put ht hl, dj1, fb1, u.gb⟩ B2 ((k1.mono fun x hx => List.mem_append_left _ hx).trans (k2.mono fun x hx => List.mem_append_right F hx) fun x hx => .inl hx) f1
end DL
end
/-! ### G13 -/
section
set_option linter.all false
set_option maxRecDepth 100000
set_option maxHeartbeats 4000000
/-! G13: how many reach. -/
namespace DL
open PySem PySem.Spec L2
open PyProof.Rows hiding St
def Dst.tot (S : Dst) : Nat := (S.wt.map List.length).sum
theorem sum_set : ∀ {xs : List (List D)} {c : Nat} {y z : List D}, xs[c]? = some z → ((xs.set c y).map List.length).sum + z.length = (xs.map List.length).sum + y.length
  | [], c, y, z, h => by simp at h
  | x :: xs, 0, y, z, h => by
    simp at h
    subst h
    simp only [List.set, List.map_cons, List.sum_cons]
    omega
  | x :: xs, c + 1, y, z, h => by
    have := sum_set (xs := xs) (c := c) (y := y) (by simpa using h)
    simp only [List.set, List.map_cons, List.sum_cons]
    omega
theorem tot_one {S : Dst} {c : Nat} {t : D} {rs : List D} (h : S.wt[c]? = some (t :: rs)) : (S.one c).tot + 1 = S.tot := by
  have e : (S.one c).wt = S.wt.set c rs := by simp [Dst.one, h]
  have := sum_set (y := rs) h
  unfold Dst.tot
  rw [e]
  rw [List.length_cons] at this
  omega
/-- power k, m writes in all -/
structure Cnt (k m : Int) (S : Dst) : Prop where
  pw : ∃ p, S.pw = some p ∧ 0 ≤ p ∧ p + S.rc = k
  all : S.rc + (S.tot : Int) = m
theorem w_cons {S : Dst} {c : Nat} (h : 0 < (S.w c).length) : ∃ t rs, S.wt[c]? = some (t :: rs) := getD_cons fun e => by
  unfold Dst.w at h
  rw [e] at h
  simp at h
theorem Cnt.one {k m : Int} {S : Dst} {c : Nat} (h : Cnt k m S) (hp : S.pw ≠ some 0) (hw : 0 < (S.w c).length) : Cnt k m (S.one c) := by
  obtain ⟨p, e, p0, pk⟩ := h.pw
  obtain ⟨t, rs, hwc⟩ := w_cons hw
  have := tot_one hwc
  have ha := h.all
  have hp0 : p ≠ 0 := fun q => hp (by rw [e, q])
  refine ⟨⟨p - 1, by simp [Dst.one, e], by omega, ?_⟩, ?_⟩
  · show p - 1 + (S.rc + 1) = k
    omega
  · show S.rc + 1 + ((S.one c).tot : Int) = m
    omega
theorem one_w {S : Dst} {c : Nat} : ((S.one c).w c).length = (S.w c).length - 1 := one_len
theorem Cnt.drain {k m : Int} {c : Nat} : ∀ (j : Nat) {S : Dst}, Cnt k m S → j ≤ (S.w c).length → Cnt k m (S.drain j c).1
  | 0, S, h, _ => h
  | j + 1, S, h, hj => by
    by_cases hp : S.pw = some 0
    · simpa [Dst.drain, hp] using h
    · have e : S.drain (j + 1) c = (S.one c).drain j c := by simp [Dst.drain, hp]
      rw [e]
      exact Cnt.drain j (h.one hp (by omega)) (by rw [one_w]; omega)
theorem Cnt.calm {k m : Int} : ∀ (cs : List Nat) {S : Dst}, Cnt k m S → Cnt k m (S.calm cs).1
  | [], S, h => h
  | c :: cs, S, h => by
    have h1 := h.drain (S.wt.getD c []).length (c := c) (Nat.le_refl _)
    by_cases hb : (S.drain (S.wt.getD c []).length c).2 = true
    · rw [calm_t hb]
      exact Cnt.calm cs h1
    · rw [calm_f hb]
      exact h1
theorem Cnt.done {k m : Int} {S : Dst} (h : Cnt k m S) (hk : k ≤ m) (e : S.pw = some 0 ∨ S.tot = 0) : S.rc = k := by
  obtain ⟨p, e1, p0, pk⟩ := h.pw
  have ha := h.all
  rcases e with e | e
  · rw [e1] at e
    cases e
    omega
  · rw [e] at ha
    omega
/-! ### a lambda asked -/
theorem RW_lam {L : Addr → Act → MF} {mb : ME} {r : Env} {s s1 : Sto} {v : D} {Q : D → Sto → Prop} (h : ∀ f, L f (fun s' => mb r s') [.con (.ref f)] s = .ok v s1) (q : Q v s1) : RW (mLam L mb r s) Q := by
  unfold mLam
  rw [if_pos fun f => by rw [h f, h 0], h 0]
  exact q
abbrev toldP : D := .tup [.str "told", .non]
abbrev stopP : D := .tup [.str "refused", .str "stopped"]
end DL
end
/-! ### G14 -/
section
set_option linter.all false
set_option maxRecDepth 100000
set_option maxHeartbeats 4000000
/-! G14: a drawn order; by order, or by a calm. -/
namespace DL
open PySem PySem.Spec L2
open PyProof.Rows hiding St
/-! ### by a calm -/
section
variable {A : Str → Addr} {n b : Nat} {s0 s : Sto} {d a : Nat} {S : Dst} {F G : List Nat} {v0 v1 v2 v3 v4 v5 v8 v9 v10 v11 v12 v13 : Option D}
end
end DL
end
/-! ### G15 -/
section
set_option linter.all false
set_option maxRecDepth 100000
set_option maxHeartbeats 4000000
/-! G15: the rows written, once and twice. -/
namespace DL
open PySem PySem.Spec L2
open PyProof.Rows hiding St
section
variable {A : Str → Addr} {n b : Nat} {s0 s : Sto} {d a : Nat} {S : Dst} {F G : List Nat} {v0 v1 v2 v3 v4 v5 v8 v9 v10 v11 v12 v13 : Option D}
/-- two pairs, apart -/
structure Four (A : Str → Addr) (n b : Nat) (s : Sto) (d a : Nat) (S : Dst) (F G : List Nat) (d2 a2 : Nat) (S2 : Dst) (F2 G2 : List Nat) : Prop where
  one : Two A n b s d a S F G
  two : Two A n b s d2 a2 S2 F2 G2
  ff : ∀ x ∈ F, x ∉ F2
  fg : ∀ x ∈ F, x ∉ G2
  gf : ∀ x ∈ G, x ∉ F2
  gg : ∀ x ∈ G, x ∉ G2
variable {d2 a2 : Nat} {S2 : Dst} {F2 G2 : List Nat}
theorem Four.d1 {s' : Sto} {S' : Dst} {F' : List Nat} (q : Four A n b s d a S F G d2 a2 S2 F2 G2) (B : b ≤ s.length) (g : Dk A s' d S' F') (k : Kp F s s') (f : ∀ x ∈ F', x ∈ F ∨ s.length ≤ x) (ac : Ac s' a S' G) (o : S'.Ok n) : Four A n b s' d a S' F' G d2 a2 S2 F2 G2 :=
  ⟨⟨g, ac, o, sep_new f q.one.dj q.one.lt.2, fun x hx => (f x hx).elim (q.one.fb x) fun e => by omega, q.one.gb⟩, q.two.keep k (fun x hx hm => q.ff x hm hx) fun x hx hm => q.fg x hm hx, sep_new f q.ff q.two.lt.1, sep_new f q.fg q.two.lt.2, q.gf, q.gg⟩
theorem sym_dj {X Y : List Nat} (h : ∀ x ∈ X, x ∉ Y) : ∀ x ∈ Y, x ∉ X := fun x hx hm => h x hm hx
end
end DL
end
/-! ### G16 -/
section
set_option linter.all false
set_option maxRecDepth 100000
set_option maxHeartbeats 4000000
/-! G16: a turn. -/
namespace DL
open PySem PySem.Spec L2
open PyProof.Rows hiding St
end DL
end
/-! ### H1 -/
section
set_option linter.all false
set_option maxRecDepth 100000
set_option maxHeartbeats 4000000
/-! H1: reach and asked, where nothing may wait. -/
namespace DL
open PySem PySem.Spec L2
open PyProof.Rows hiding St
theorem reach_none2 (A : Str → Addr) {s : Sto} {d n c : Nat} {S : Dst} {F : List Nat} (h : Dk A s d S F) (o : S.Ok n) (hc : c < n) (hw : S.wt.getD c [] = []) : l_Disk_reach_2 A [.loc d, .int (c : Int)] s = .exc ⟨A "NothingWaits", none⟩ s := by
  have hck := check_cell_ok A h o hc
  have e1 := dk_meth (x := "check_cell") (f := l_Disk_check_cell A) (ma := mCons (mVar 1) mNil) (i := 0) (r := [some (.loc d), some (.int (c : Int))]) (ds := [.int (c : Int)]) h (by decide) rfl rfl
  have e2 := (dk_has (c := c) (r := [some (.loc d), some (.int (c : Int))]) h rfl rfl).2
  rw [hw] at e2
  unfold l_Disk_reach_2 mDef
  rw [if_pos (show [D.loc d, D.int (c : Int)].length = 2 from rfl)]
  show (match mSeq _ _ [some (.loc d), some (.int (c : Int))] s with
    | .nx _ s1 => R.ok D.non s1
    | .rt d s1 => R.ok d s1
    | .exc e _ s1 => R.exc e s1
    | _ => R.bad) = _
  simp only [mSeq, mDrop, e1, hck, mIf, asB, e2]
  simp [mRaise]
theorem reach_stop2 (A : Str → Addr) {s : Sto} {d n c : Nat} {S : Dst} {F : List Nat} (h : Dk A s d S F) (o : S.Ok n) (hc : c < n) (hw : S.wt.getD c [] ≠ []) (hp : S.pw = some 0) : l_Disk_reach_2 A [.loc d, .int (c : Int)] s = .exc ⟨A "Stopped", none⟩ s := by
  have hck := check_cell_ok A h o hc
  have e1 := dk_meth (x := "check_cell") (f := l_Disk_check_cell A) (ma := mCons (mVar 1) mNil) (i := 0) (r := [some (.loc d), some (.int (c : Int))]) (ds := [.int (c : Int)]) h (by decide) rfl rfl
  have e2 := (dk_has (c := c) (r := [some (.loc d), some (.int (c : Int))]) h rfl rfl).2
  have e3 := dk_meth (x := "reach_one") (f := l_Disk_reach_one A) (ma := mCons (mVar 1) mNil) (i := 0) (r := [some (.loc d), some (.int (c : Int))]) (ds := [.int (c : Int)]) h (by decide) rfl rfl
  rw [show decide (S.wt.getD c [] ≠ []) = true from decide_eq_true hw] at e2
  unfold l_Disk_reach_2 mDef
  rw [if_pos (show [D.loc d, D.int (c : Int)].length = 2 from rfl)]
  show (match mSeq _ _ [some (.loc d), some (.int (c : Int))] s with
    | .nx _ s1 => R.ok D.non s1
    | .rt d s1 => R.ok d s1
    | .exc e _ s1 => R.exc e s1
    | _ => R.bad) = _
  simp only [mSeq, mDrop, e1, hck, mIf, asB, e2]
  simp [mNext, e3, reach_one_stop A h hp]
theorem reach_ok2 (A : Str → Addr) {s : Sto} {d n c : Nat} {S : Dst} {F : List Nat} (h : Dk A s d S F) (o : S.Ok n) (hc : c < n) (hw : S.wt.getD c [] ≠ []) (hp : S.pw ≠ some 0) :
    ∃ s' F', l_Disk_reach_2 A [.loc d, .int (c : Int)] s = .ok .non s' ∧ Dk A s' d (S.one c) F' ∧ Kp F s s' ∧ ∀ k ∈ F', k ∈ F ∨ s.length ≤ k := by
  have hck := check_cell_ok A h o hc
  have e1 := dk_meth (x := "check_cell") (f := l_Disk_check_cell A) (ma := mCons (mVar 1) mNil) (i := 0) (r := [some (.loc d), some (.int (c : Int))]) (ds := [.int (c : Int)]) h (by decide) rfl rfl
  have e2 := (dk_has (c := c) (r := [some (.loc d), some (.int (c : Int))]) h rfl rfl).2
  have e3 := dk_meth (x := "reach_one") (f := l_Disk_reach_one A) (ma := mCons (mVar 1) mNil) (i := 0) (r := [some (.loc d), some (.int (c : Int))]) (ds := [.int (c : Int)]) h (by decide) rfl rfl
  rw [show decide (S.wt.getD c [] ≠ []) = true from decide_eq_true hw] at e2
  obtain ⟨t, rs, hwc⟩ := getD_cons hw
  obtain ⟨v, s', e4, rfl, F', hd, hk, hn⟩ := (reach_one_ok A h o hp hwc).get
  refine ⟨s', F', ?_, hd, hk, hn⟩
  unfold l_Disk_reach_2 mDef
  rw [if_pos (show [D.loc d, D.int (c : Int)].length = 2 from rfl)]
  show (match mSeq _ _ [some (.loc d), some (.int (c : Int))] s with
    | .nx _ s1 => R.ok D.non s1
    | .rt d s1 => R.ok d s1
    | .exc e _ s1 => R.exc e s1
    | _ => R.bad) = _
  simp only [mSeq, mDrop, e1, hck, mIf, asB, e2]
  simp [mNext, e3, e4]
end DL
end
/-! ### H2 -/
section
set_option linter.all false
set_option maxRecDepth 100000
set_option maxHeartbeats 4000000
/-! H2: a deed. -/
namespace DL
open PySem PySem.Spec L2
open PyProof.Rows hiding St
/-- the classes that are told apart -/
structure NeA (A : Str → Addr) : Prop where
  s1 : A "Stopped" ≠ A "BadDisk"
  s2 : A "Stopped" ≠ A "NoCell"
  s3 : A "Stopped" ≠ A "NoThing"
  s4 : A "Stopped" ≠ A "NothingWaits"
  s5 : A "Stopped" ≠ A "NoNumber"
  w1 : A "NothingWaits" ≠ A "BadDisk"
  w2 : A "NothingWaits" ≠ A "NoCell"
  w3 : A "NothingWaits" ≠ A "NoThing"
  w4 : A "NothingWaits" ≠ A "Stopped"
  w5 : A "NothingWaits" ≠ A "NoNumber"
abbrev nothP : D := .tup [.str "refused", .str "nothing"]
theorem gEq_told {s : Sto} : gEq toldP toldP s = some (.bl true, s) := by
  simp [gEq, eqB, D.py, D.pyW, D.pysW, SeqAt.shaped, PyData.canLay0, PyData.canLayAll0, PyData.depth, PyData.depthAll, PyData.eqv, PyData.eqvAll, show PyData.strOk (Str.ofString "told") = true from by decide +kernel]
theorem gEq_stop {s : Sto} : gEq stopP stopP s = some (.bl true, s) := by
  simp [gEq, eqB, D.py, D.pyW, D.pysW, SeqAt.shaped, PyData.canLay0, PyData.canLayAll0, PyData.depth, PyData.depthAll, PyData.eqv, PyData.eqvAll, show PyData.strOk (Str.ofString "refused") = true from by decide +kernel, show PyData.strOk (Str.ofString "stopped") = true from by decide +kernel]
theorem gEq_noth {s : Sto} : gEq nothP nothP s = some (.bl true, s) := by
  simp [gEq, eqB, D.py, D.pyW, D.pysW, SeqAt.shaped, PyData.canLay0, PyData.canLayAll0, PyData.depth, PyData.depthAll, PyData.eqv, PyData.eqvAll, show PyData.strOk (Str.ofString "refused") = true from by decide +kernel, show PyData.strOk (Str.ofString "nothing") = true from by decide +kernel]
theorem gEq_nil {s : Sto} {x m : Nat} {z : List D} (h1 : s[x]? = some (.lst z)) (h2 : s[m]? = some (.lst [])) (hz : ∀ t ∈ z, ThD t) : gEq (.loc x) (.loc m) s = some (.bl (decide (z = [])), s) := by
  have h := gNe_nil h1 h2 hz
  simp only [gNe, Option.map_eq_some_iff] at h
  obtain ⟨b, hb, hq⟩ := h
  simp only [gEq, hb, Option.map_some]
  cases b <;> by_cases hzz : z = [] <;> simp_all
theorem power_none (A : Str → Addr) {s : Sto} {d n : Nat} {S : Dst} {F : List Nat} (h : Dk A s d S F) : RW (l_Disk_power A [.loc d, .non] s) fun v s' => v = .non ∧ Dk A s' d { S with pw := none } F ∧ Kp F s s' := by
  obtain ⟨l, w, q, hF, h⟩ := h
  have hob := h.ob
  unfold l_Disk_power
  simp
  refine ⟨_, _, hob, rfl, by simp, ?_⟩
  have e2 : putD "kept_power" D.non (insD l w S) = insD l w { S with pw := none } := putD_pw (v := none)
  rw [e2]
  have up : ∀ {k : Nat} {ob : Ob}, s[k]? = some ob → k ≠ d → (s.set d (.ins (A "Disk") (insD l w { S with pw := none })))[k]? = some ob := fun e hk => get_set_ne e (Ne.symm hk)
  refine ⟨⟨l, w, q, hF, get_set_eq hob, up h.ly (Ne.symm h.dl), up h.wt (Ne.symm h.dw), h.nd, h.ks, fun x hx => ?_⟩, Kp.refl.set (.inl (by rw [hF]; simp))⟩
  obtain ⟨a1, z, a2, a3⟩ := h.qs x hx
  exact ⟨a1, z, a2, up a3 (h.qd hx).1⟩
theorem lpowerV {s : Sto} {a i j : Nat} {S : Dst} {G : List Nat} {p : Option Int} {r : Env} (h : Ac s a S G) (r5 : r[i]? = some (some (pwD p))) (r7 : r[j]? = some (some (.loc a))) {Q : Env → Sto → Prop} {Qr : D → Sto → Prop} {Qb Qc : Env → Sto → Prop}
    (q : ∀ s', Ac s' a { S with pw := p } G → Kp G s s' → Q r s') : SW (mSetIx (mVar i) (mVar j) (mC (.str "power")) r s) Q Qr Qb Qc := by
  obtain ⟨l, w, p', hG, h⟩ := h
  have aN := h.aN
  simp only [List.mem_cons, not_or] at aN
  rw [SW_setIx, RW_var]
  refine ⟨_, r5, ?_⟩
  rw [RW_var]
  refine ⟨_, r7, ?_⟩
  rw [RW_C]
  refine ⟨_, gSet_str h.ob (by simp), ?_⟩
  rw [put_pw]
  refine q _ ⟨l, w, p', hG, get_set_eq h.ob, get_set_ne h.ly aN.1, get_set_ne h.wt aN.2.1, h.len, fun i x hx => ?_, h.nd⟩ (Kp.refl.set (.inl (by rw [hG]; simp)))
  obtain ⟨z, z1, z2⟩ := h.ps i x hx
  exact ⟨z, z1, get_set_ne z2 fun e => aN.2.2 (by rw [e]; exact List.mem_of_getElem? hx)⟩
/-- both hold one state, so much waits at most -/
structure Pair (A : Str → Addr) (n b m : Nat) (s0 s : Sto) (d a : Nat) (S : Dst) (F G : List Nat) : Prop where
  two : Two A n b s d a S F G
  bas : Bas b s0 s
  few : ∀ c, (S.w c).length ≤ m
theorem drain_w {c a : Nat} : ∀ (k : Nat) {S : Dst}, ((S.drain k c).1.w a).length ≤ (S.w a).length
  | 0, S => Nat.le_refl _
  | k + 1, S => by
    by_cases hp : S.pw = some 0
    · simp [Dst.drain, hp]
    · have e : S.drain (k + 1) c = (S.one c).drain k c := by simp [Dst.drain, hp]
      rw [e]
      refine Nat.le_trans (drain_w k) ?_
      by_cases h : c = a
      · subst h; rw [one_w]; omega
      · have : (S.one c).w a = S.w a := by
          unfold Dst.w
          show (S.wt.set c _).getD a [] = _
          rw [List.getD_eq_getElem?_getD, List.getElem?_set_ne h, ← List.getD_eq_getElem?_getD]
        rw [this]
        exact Nat.le_refl _
theorem calm_wl : ∀ (cs : List Nat) {S : Dst} {a : Nat}, ((S.calm cs).1.w a).length ≤ (S.w a).length
  | [], S, a => Nat.le_refl _
  | c :: cs, S, a => by
    by_cases hb : (S.drain (S.wt.getD c []).length c).2 = true
    · rw [calm_t hb]
      exact Nat.le_trans (calm_wl cs) (drain_w _)
    · rw [calm_f hb]
      exact drain_w _
theorem one_wl {S : Dst} {c a : Nat} : ((S.one c).w a).length ≤ (S.w a).length := by
  by_cases h : c = a
  · subst h; rw [one_w]; omega
  · have : (S.one c).w a = S.w a := by
      unfold Dst.w
      show (S.wt.set c _).getD a [] = _
      rw [List.getD_eq_getElem?_getD, List.getElem?_set_ne h, ← List.getD_eq_getElem?_getD]
    rw [this]
    exact Nat.le_refl _
abbrev env9 (d a : Nat) (v3 v4 v5 v6 v7 v8 : Option D) : Env := [some (.loc 2), some (.loc d), some (.loc a), v3, v4, v5, v6, v7, v8]
abbrev Good (A : Str → Addr) (n b m : Nat) (s0 : Sto) (d a : Nat) (v : D) (s' : Sto) : Prop := v = .bl true ∧ ∃ S' F' G', Pair A n b m s0 s' d a S' F' G'
theorem Pair.up {A : Str → Addr} {n b m m' : Nat} {s0 s : Sto} {d a : Nat} {S : Dst} {F G : List Nat} (h : Pair A n b m s0 s d a S F G) (hm : m ≤ m') : Pair A n b m' s0 s d a S F G := ⟨h.two, h.bas, fun c => Nat.le_trans (h.few c) hm⟩
end DL
end
/-! ### H3 -/
section
set_option linter.all false
set_option maxRecDepth 100000
set_option maxHeartbeats 4000000
/-! H3: a copy goes on apart. -/
namespace DL
open PySem PySem.Spec L2
open PyProof.Rows hiding St
theorem Bas.kp2 {s s' : Sto} (h : Bas s.length s s') : Kp [2] s s' := ⟨h.le, fun k hk h2 => h.eq k hk (by simpa using h2)⟩
theorem Bas.over {b : Nat} {s0 s s' : Sto} (h : Bas b s0 s) (h2 : Bas s.length s s') : Bas b s0 s' :=
  ⟨Nat.le_trans h.le h2.le, h2.hs, fun k hk h3 => (h2.eq k (Nat.lt_of_lt_of_le hk h.le) h3).trans (h.eq k hk h3)⟩
theorem Pair.over {A : Str → Addr} {n b m : Nat} {s0 s s' : Sto} {d a : Nat} {S : Dst} {F G : List Nat} (u : Pair A n b m s0 s d a S F G) (h3 : 3 ≤ b) (h : Bas s.length s s') : Pair A n b m s0 s' d a S F G :=
  ⟨u.two.keep h.kp2 (fun x hx hm => by rw [List.mem_singleton.mp hm] at hx; have := u.two.fb _ hx; omega) fun x hx hm => by rw [List.mem_singleton.mp hm] at hx; have := u.two.gb _ hx; omega, u.bas.over h, u.few⟩
end DL
end
/-! ### H4 -/
section
set_option linter.all false
set_option maxRecDepth 100000
set_option maxHeartbeats 4000000
/-! H4: a great disk. -/
namespace DL
open PySem PySem.Spec L2
open PyProof.Rows hiding St
/-- a disk and an account, new -/
theorem Pair.new {A : Str → Addr} {n b : Nat} {s0 s s1 s2 : Sto} {a : Nat} {F G : List Nat} (hn0 : 1 ≤ n) (hn1 : n ≤ 2000) (h3 : 3 ≤ b) (B : Bas b s0 s) (g1 : Dk A s1 s.length (Dst.at0 n (List.replicate n (.tup [])) 0) F) (k1 : Kp [] s s1) (f1 : ∀ k ∈ F, s.length ≤ k)
    (ga : Ac s2 a (Dst.at0 n (List.replicate n (.tup [])) 0) G) (k2 : Kp [] s1 s2) (f2 : ∀ k ∈ G, s1.length ≤ k) : Pair A n b 0 s0 s2 s.length a (Dst.at0 n (List.replicate n (.tup [])) 0) F G := by
  have hb := B.le
  refine ⟨⟨g1.keep k2 fun _ _ => by simp, ga, Dst.Ok.at0 hn0 hn1 (by simp) fun x hx => .inl (List.eq_of_mem_replicate hx), fun x hx hg => ?_, fun x hx => Nat.le_trans hb (f1 x hx), fun x hx => Nat.le_trans (Nat.le_trans hb k1.1) (f2 x hx)⟩, (B.kp k1 (by simp) h3).kp k2 (by simp) h3, fun c => by rw [w_at0]; simp⟩
  have := g1.lt x hx
  have := f2 x hg
  omega
end DL
end
/-! ### DL45 -/
section
set_option linter.all false
set_option maxRecDepth 100000
set_option maxHeartbeats 4000000
/-! DL45: a mirror that says no more often than another one (mNever in the place of a raise that is reached): what the lesser one tells, the greater one tells, too. -/
namespace DL
open PySem PySem.Spec L2
open PyProof.Rows hiding St
def UpR {α : Type} (x y : R α) : Prop := x = .bad ∨ x = y
def UpS (x y : S) : Prop := x = .bad ∨ x = y
def UpE {α : Type} (m n : Env → Sto → R α) : Prop := ∀ r s, UpR (m r s) (n r s)
def UpM (m n : MS) : Prop := ∀ r s, UpS (m r s) (n r s)
def UpF (f g : MF) : Prop := ∀ ds s, UpR (f ds s) (g ds s)
theorem UpR.rfl' {α : Type} {x : R α} : UpR x x := .inr rfl
theorem UpS.rfl' {x : S} : UpS x x := .inr rfl
theorem UpE.rfl' {α : Type} {m : Env → Sto → R α} : UpE m m := fun _ _ => .inr rfl
theorem UpM.rfl' {m : MS} : UpM m m := fun _ _ => .inr rfl
theorem UpF.rfl' {f : MF} : UpF f f := fun _ _ => .inr rfl
theorem UpR.ok {α : Type} {x y : R α} {a : α} {s : Sto} (h : UpR x y) (e : x = .ok a s) : y = .ok a s := by
  rcases h with h | h
  · rw [h] at e; cases e
  · rw [← h, e]
theorem UpR.exc {α : Type} {x y : R α} {a : Exn} {s : Sto} (h : UpR x y) (e : x = .exc a s) : y = .exc a s := by
  rcases h with h | h
  · rw [h] at e; cases e
  · rw [← h, e]
theorem UpF.ok {f g : MF} (h : UpF f g) {ds : List D} {s : Sto} {a : D} {s' : Sto} (e : f ds s = .ok a s') : g ds s = .ok a s' := (h ds s).ok e
theorem UpF.exc {f g : MF} (h : UpF f g) {ds : List D} {s : Sto} {a : Exn} {s' : Sto} (e : f ds s = .exc a s') : g ds s = .exc a s' := (h ds s).exc e
theorem UpF.trans {f g h : MF} (a : UpF f g) (b : UpF g h) : UpF f h := fun ds s => by
  rcases a ds s with e | e
  · exact .inl e
  · rw [UpR, e]; exact b ds s
theorem UpR.bind {α β : Type} {x y : R α} {f g : α → Sto → R β} (h : UpR x y) (k : ∀ a s, UpR (f a s) (g a s)) : UpR (x.bind f) (y.bind g) := by
  rcases h with rfl | rfl
  · exact .inl rfl
  · cases x with
    | ok a s => exact k a s
    | exc e s => exact .inr rfl
    | bad => exact .inl rfl
theorem UpR.bindL {α β : Type} {x y : R α} {f : α → Sto → R β} (h : UpR x y) : UpR (x.bind f) (y.bind f) := h.bind fun _ _ => .inr rfl
theorem up_bin {g : G2} {m m' n n' : ME} (a : UpE m m') (b : UpE n n') : UpE (mBin g m n) (mBin g m' n') := fun r s => (a r s).bind fun _ s1 => (b r s1).bindL
theorem up_chain {g g' : G2} {m m' n n' o o' : ME} (a : UpE m m') (b : UpE n n') (c : UpE o o') : UpE (mChain g g' m n o) (mChain g g' m' n' o') := fun r s => (a r s).bind fun d s1 => (b r s1).bind fun e s2 => by
  split <;> first | exact .inr rfl | exact (c r _).bindL
theorem up_and {m m' n n' : MT} (a : UpE m m') (b : UpE n n') : UpE (mAnd m n) (mAnd m' n') := fun r s => (a r s).bind fun d s1 => by
  cases d
  · exact .inr rfl
  · exact b r s1
theorem up_or {m m' n n' : MT} (a : UpE m m') (b : UpE n n') : UpE (mOr m n) (mOr m' n') := fun r s => (a r s).bind fun d s1 => by
  cases d
  · exact b r s1
  · exact .inr rfl
theorem up_not {m m' : MT} (a : UpE m m') : UpE (mNot m) (mNot m') := fun r s => (a r s).bindL
theorem up_ifE {c c' : MT} {m m' n n' : ME} (t : UpE c c') (a : UpE m m') (b : UpE n n') : UpE (mIfE c m n) (mIfE c' m' n') := fun r s => (t r s).bind fun d s1 => by
  cases d
  · exact b r s1
  · exact a r s1
theorem up_neg {m m' : ME} (a : UpE m m') : UpE (mNeg m) (mNeg m') := fun r s => (a r s).bindL
theorem up_cons {m m' : ME} {n n' : MA} (a : UpE m m') (b : UpE n n') : UpE (mCons m n) (mCons m' n') := fun r s => (a r s).bind fun _ s1 => (b r s1).bindL
theorem up_tup {n n' : MA} (b : UpE n n') : UpE (mTup n) (mTup n') := fun r s => (b r s).bindL
theorem up_lst {n n' : MA} (b : UpE n n') : UpE (mLst n) (mLst n') := fun r s => (b r s).bindL
theorem up_new {n n' : MA} (b : UpE n n') : UpE (mNew n) (mNew n') := fun r s => (b r s).bindL
theorem up_newD {n n' : MD} (b : UpE n n') : UpE (mNewD n) (mNewD n') := fun r s => (b r s).bindL
theorem up_callB {g : GF} {n n' : MA} (b : UpE n n') : UpE (mCallB g n) (mCallB g n') := fun r s => (b r s).bindL
theorem up_callF {g : List D → Option D} {n n' : MA} (b : UpE n n') : UpE (mCallF g n) (mCallF g n') := fun r s => (b r s).bindL
theorem up_callL {g : GL} {n n' : MA} (b : UpE n n') : UpE (mCallL g n) (mCallL g n') := fun r s => (b r s).bindL
theorem up_mB {g : GM} {m m' : ME} {n n' : MA} (a : UpE m m') (b : UpE n n') : UpE (mMB g m n) (mMB g m' n') := fun r s => (a r s).bind fun d s1 => by
  split
  · exact (b r s1).bindL
  · exact .inr rfl
theorem up_call {f g : MF} {n n' : MA} (h : UpF f g) (b : UpE n n') : UpE (mCall f n) (mCall g n') := fun r s => (b r s).bind fun ds s1 => h ds s1
theorem up_call0 {f g : MF} (h : UpF f g) : UpE (mCall0 f) (mCall0 g) := fun r s => h [] s
theorem up_callS {f g : MF} (h : UpF f g) : UpE (mCallS f) (mCallS g) := fun r s => by
  unfold mCallS
  split
  · exact h _ _
  · exact .inr rfl
theorem up_meth {C : Addr} {m : Str} {f g : MF} {o o' : ME} {n n' : MA} (h : UpF f g) (a : UpE o o') (b : UpE n n') : UpE (mMeth C m f o n) (mMeth C m g o' n') := fun r s => (a r s).bind fun d s1 => by
  split
  · split
    · split
      · exact (b r s1).bind fun ds s2 => h _ _
      · exact .inr rfl
    · exact .inr rfl
  · exact .inr rfl
theorem up_make {C : Addr} {f g : MF} {n n' : MA} (h : UpF f g) (b : UpE n n') : UpE (mMake C f n) (mMake C g n') := fun r s => (b r s).bind fun ds s1 => (h _ _).bindL
theorem up_fld {cs : List Addr} {f : Str} {m m' : ME} (a : UpE m m') : UpE (mFld cs f m) (mFld cs f m') := fun r s => (a r s).bindL
theorem up_rev {m m' : ME} (a : UpE m m') : UpE (mRev m) (mRev m') := fun r s => (a r s).bindL
theorem up_asB {m m' : ME} (a : UpE m m') : UpE (asB m) (asB m') := fun r s => (a r s).bindL
theorem up_asT {m m' : ME} (a : UpE m m') : UpE (asT m) (asT m') := fun r s => (a r s).bindL
theorem up_ofB {m m' : MT} (a : UpE m m') : UpE (ofB m) (ofB m') := fun r s => (a r s).bindL
theorem up_part {m m' : Option ME} (a : (m = none ∧ m' = none) ∨ ∃ n n', m = some n ∧ m' = some n' ∧ UpE n n') : UpE (mPart m) (mPart m') := fun r s => by
  rcases a with ⟨rfl, rfl⟩ | ⟨n, n', rfl, rfl, h⟩
  · exact .inr rfl
  · exact (h r s).bindL
theorem up_sl {m m' : ME} {l l' h h' : Option ME} (a : UpE m m') (b : UpE (mPart l) (mPart l')) (c : UpE (mPart h) (mPart h')) : UpE (mSl m l h) (mSl m' l' h') := fun r s => (a r s).bind fun _ s1 => (b r s1).bind fun _ s2 => (c r s2).bindL
theorem up_some {m m' : ME} (a : UpE m m') : UpE (mPart (some m)) (mPart (some m')) := up_part (.inr ⟨_, _, rfl, rfl, a⟩)
theorem up_it {m m' : ME} (a : UpE m m') : UpE (mIt m) (mIt m') := fun r s => (a r s).bindL
theorem up_rg1 {m m' : ME} (a : UpE m m') : UpE (mRg1 m) (mRg1 m') := fun r s => (a r s).bindL
theorem up_rg2 {m m' n n' : ME} (a : UpE m m') (b : UpE n n') : UpE (mRg2 m n) (mRg2 m' n') := fun r s => (a r s).bind fun _ s1 => (b r s1).bindL
theorem up_rgs1 {m m' : ME} (a : UpE m m') : UpE (mRgs1 m) (mRgs1 m') := fun r s => (a r s).bindL
theorem up_rgs2 {m m' n n' : ME} (a : UpE m m') (b : UpE n n') : UpE (mRgs2 m n) (mRgs2 m' n') := fun r s => (a r s).bind fun _ s1 => (b r s1).bindL
theorem up_tupL {n n' : MA} (b : UpE n n') : UpE (mTupL n) (mTupL n') := fun r s => (b r s).bindL
theorem up_zip {m m' n n' : ME} (a : UpE m m') (b : UpE n n') : UpE (mZip m n) (mZip m' n') := fun r s => (a r s).bind fun _ s1 => (b r s1).bindL
theorem up_enum {m m' : ME} (a : UpE m m') : UpE (mEnum m) (mEnum m') := fun r s => (a r s).bindL
theorem up_keys {m m' : ME} (a : UpE m m') : UpE (mKeys m) (mKeys m') := fun r s => (a r s).bindL
theorem up_items {m m' : ME} (a : UpE m m') : UpE (mItems m) (mItems m') := fun r s => (a r s).bindL
theorem up_dictOf {m m' : ME} (a : UpE m m') : UpE (mDictOf m) (mDictOf m') := fun r s => (a r s).bindL
theorem up_dictPr {m m' : ME} (a : UpE m m') : UpE (mDictPr m) (mDictPr m') := fun r s => (a r s).bindL
theorem up_revLs {m m' : ME} (a : UpE m m') : UpE (mRevLs m) (mRevLs m') := fun r s => (a r s).bindL
theorem up_srtK {kf : KF} {m m' : ME} (a : UpE m m') : UpE (mSrtK kf m) (mSrtK kf m') := fun r s => (a r s).bindL
theorem up_get2 {o o' k k' x x' : ME} (a : UpE o o') (b : UpE k k') (c : UpE x x') : UpE (mGet2 o k x) (mGet2 o' k' x') := fun r s => (a r s).bind fun d s1 => by
  split
  · split
    · exact (b r _).bind fun _ s2 => (c r s2).bindL
    · exact .inr rfl
  · exact .inr rfl
theorem up_dpop1 {o o' k k' : ME} (a : UpE o o') (b : UpE k k') : UpE (mDPop1 o k) (mDPop1 o' k') := fun r s => (a r s).bind fun d s1 => by
  split
  · split
    · exact (b r _).bindL
    · exact .inr rfl
  · exact .inr rfl
theorem up_asg {m m' : ME} {g : MG} (a : UpE m m') : UpM (mAsg m g) (mAsg m' g) := fun r s => by
  unfold mAsg
  rcases a r s with h | h
  · rw [h]; exact .inl rfl
  · rw [h]; exact .inr rfl
theorem up_seq {m m' n n' : MS} (a : UpM m m') (b : UpM n n') : UpM (mSeq m n) (mSeq m' n') := fun r s => by
  unfold mSeq
  rcases a r s with h | h
  · rw [h]; exact .inl rfl
  · rw [h]
    split
    · exact b _ _
    · exact .inr rfl
theorem up_drop {m m' : ME} (a : UpE m m') : UpM (mDrop m) (mDrop m') := fun r s => by
  unfold mDrop
  rcases a r s with h | h
  · rw [h]; exact .inl rfl
  · rw [h]; exact .inr rfl
theorem up_ret {m m' : ME} (a : UpE m m') : UpM (mRet m) (mRet m') := fun r s => by
  unfold mRet
  rcases a r s with h | h
  · rw [h]; exact .inl rfl
  · rw [h]; exact .inr rfl
theorem up_if {c c' : MT} {m m' n n' : MS} (t : UpE c c') (a : UpM m m') (b : UpM n n') : UpM (mIf c m n) (mIf c' m' n') := fun r s => by
  unfold mIf
  rcases t r s with h | h
  · rw [h]; exact .inl rfl
  · rw [h]
    split
    · exact a _ _
    · exact b _ _
    · exact .inr rfl
    · exact .inr rfl
theorem up_never {m : MS} : UpM mNever m := fun _ _ => .inl rfl
theorem up_setFld {cs : List Addr} {f : Str} {o o' v v' : ME} (a : UpE o o') (b : UpE v v') : UpM (mSetFld cs f o v) (mSetFld cs f o' v') := fun r s => by
  unfold mSetFld
  rcases b r s with h | h
  · rw [h]; exact .inl rfl
  · rw [h]
    split
    · rename_i v1 s1 _
      rcases a r s1 with h | h
      · rw [h]; exact .inl rfl
      · rw [h]; exact .inr rfl
    · exact .inr rfl
    · exact .inr rfl
theorem up_fldAug {op : Int → Int → Int} {cs : List Addr} {f : Str} {o o' v v' : ME} (a : UpE o o') (b : UpE v v') : UpM (mFldAug op cs f o v) (mFldAug op cs f o' v') := fun r s => by
  unfold mFldAug
  rcases a r s with h | h
  · rw [h]; exact .inl rfl
  · rw [h]
    split
    · rename_i n s1 _
      split
      · split
        · split
          · rcases b r s1 with h | h
            · rw [h]; exact .inl rfl
            · rw [h]; exact .inr rfl
          · exact .inr rfl
        · exact .inr rfl
      · exact .inr rfl
    · exact .inr rfl
    · exact .inr rfl
    · exact .inr rfl
theorem up_setIx {v v' o o' i i' : ME} (c : UpE v v') (a : UpE o o') (b : UpE i i') : UpM (mSetIx v o i) (mSetIx v' o' i') := fun r s => by
  unfold mSetIx
  rcases c r s with h | h
  · rw [h]; exact .inl rfl
  · rw [h]
    split
    · rename_i v1 s1 _
      rcases a r s1 with h | h
      · rw [h]; exact .inl rfl
      · rw [h]
        split
        · rename_i v2 s2 _
          rcases b r s2 with h | h
          · rw [h]; exact .inl rfl
          · rw [h]; exact .inr rfl
        · exact .inr rfl
        · exact .inr rfl
    · exact .inr rfl
    · exact .inr rfl
theorem up_par {i j : Nat} {n n' : MA} (b : UpE n n') : UpM (mPar i j n) (mPar i j n') := fun r s => by
  unfold mPar
  rcases b r s with h | h
  · rw [h]; exact .inl rfl
  · rw [h]; exact .inr rfl
theorem up_par3 {i j l : Nat} {n n' : MA} (b : UpE n n') : UpM (mPar3 i j l n) (mPar3 i j l n') := fun r s => by
  unfold mPar3
  rcases b r s with h | h
  · rw [h]; exact .inl rfl
  · rw [h]; exact .inr rfl
theorem up_swap {o i u j : ME} {n n' : MA} (b : UpE n n') : UpM (mSwap n o i u j) (mSwap n' o i u j) := fun r s => by
  unfold mSwap
  rcases b r s with h | h
  · rw [h]; exact .inl rfl
  · rw [h]; exact .inr rfl
theorem up_forGo {gs : List (Nat × Ob)} {tg : MG} {b b' : MS} (h : UpM b b') : ∀ (ds : List D) (r : Env) (s : Sto), UpS (mForGo gs tg b ds r s) (mForGo gs tg b' ds r s)
  | [], r, s => .inr rfl
  | d :: ds, r, s => by
    rw [mForGo, mForGo]
    split
    · split
      · rename_i r1 s1 _
        rcases h r1 s1 with e | e
        · rw [e]; exact .inl rfl
        · rw [e]
          split <;> first | exact .inr rfl | exact up_forGo h ds _ _
      · exact .inr rfl
    · exact .inr rfl
theorem up_for {i i' : MI} {tg : MG} {b b' : MS} (a : UpE i i') (h : UpM b b') : UpM (mFor i tg b) (mFor i' tg b') := fun r s => by
  unfold mFor
  rcases a r s with e | e
  · rw [e]; exact .inl rfl
  · rw [e]
    split
    · exact up_forGo h _ _ _
    · exact .inr rfl
    · exact .inr rfl
theorem up_whN {c c' : MT} {b b' : MS} (t : UpE c c') (h : UpM b b') : ∀ (k : Nat) (r : Env) (s : Sto) (x : S), mWhN c b k r s = some x → x = .bad ∨ mWhN c' b' k r s = some x
  | 0, _, _, _, e => by cases e
  | k + 1, r, s, x, e => by
    rw [mWhN] at e ⊢
    rcases t r s with q | q
    · rw [q] at e; cases e; exact .inl rfl
    · rw [q] at e
      cases hc : c' r s with
      | ok b s1 =>
        cases b with
        | true =>
          simp only [hc] at e ⊢
          rcases h r s1 with q2 | q2
          · rw [q2] at e; cases e; exact .inl rfl
          · rw [q2] at e
            cases hb : b' r s1 with
            | nx r2 s2 => simp only [hb] at e ⊢; exact up_whN t h k _ _ _ e
            | ct r2 s2 => simp only [hb] at e ⊢; exact up_whN t h k _ _ _ e
            | bk _ _ => simp only [hb] at e ⊢; exact .inr e
            | rt _ _ => simp only [hb] at e ⊢; exact .inr e
            | exc _ _ _ => simp only [hb] at e ⊢; exact .inr e
            | bad => simp only [hb] at e ⊢; exact .inr e
        | false => simp only [hc] at e ⊢; exact .inr e
      | exc _ _ => simp only [hc] at e ⊢; exact .inr e
      | bad => simp only [hc] at e ⊢; exact .inr e
theorem up_wh {c c' : MT} {b b' : MS} (t : UpE c c') (h : UpM b b') : UpM (mWh c b) (mWh c' b') := fun r s => by
  by_cases hx : ∃ k x, mWhN c b k r s = some x
  · obtain ⟨k, x, e⟩ := hx
    rw [UpS, mWh_eq e]
    rcases up_whN t h k r s x e with rfl | e2
    · exact .inl rfl
    · exact .inr (mWh_eq e2).symm
  · unfold mWh
    rw [dif_neg hx]
    exact .inl rfl
theorem up_lcGo {gs : List (Nat × Ob)} {tg : MG} {t t' : MT} {e e' : ME} (a : UpE t t') (b : UpE e e') (r : Env) : ∀ (ds : List D) (s : Sto) (acc : List D), UpR (mLcGo gs tg t e r ds s acc) (mLcGo gs tg t' e' r ds s acc)
  | [], s, acc => .inr rfl
  | d :: ds, s, acc => by
    rw [mLcGo, mLcGo]
    split
    · split
      · rename_i r1 s1 _
        rcases a r1 s1 with q | q
        · rw [q]; exact .inl rfl
        · rw [q]
          split
          · rename_i s2 _
            rcases b r1 s2 with q | q
            · rw [q]; exact .inl rfl
            · rw [q]
              split
              · split
                · exact up_lcGo a b r ds _ _
                · exact .inr rfl
              · exact .inr rfl
          · exact up_lcGo a b r ds _ _
          · exact .inr rfl
      · exact .inr rfl
    · exact .inr rfl
theorem up_lc {i i' : MI} {tg : MG} {t t' : MT} {e e' : ME} {vs : List Nat} (c : UpE i i') (a : UpE t t') (b : UpE e e') : UpE (mLc i tg t e vs) (mLc i' tg t' e' vs) := fun r s => (c r s).bind fun q s1 => up_lcGo a b _ _ _ _
theorem up_dcGo {gs : List (Nat × Ob)} {tg : MG} {t t' : MT} {k k' v v' : ME} (a : UpE t t') (b : UpE k k') (c : UpE v v') (r : Env) : ∀ (ds : List D) (s : Sto) (acc : List (Key × D)), UpR (mDcGo gs tg t k v r ds s acc) (mDcGo gs tg t' k' v' r ds s acc)
  | [], s, acc => .inr rfl
  | d :: ds, s, acc => by
    rw [mDcGo, mDcGo]
    split
    · split
      · rename_i r1 s1 _
        rcases a r1 s1 with q | q
        · rw [q]; exact .inl rfl
        · rw [q]
          split
          · rename_i s2 _
            rcases b r1 s2 with q | q
            · rw [q]; exact .inl rfl
            · rw [q]
              split
              · rename_i s3 _
                rcases c r1 s3 with q | q
                · rw [q]; exact .inl rfl
                · rw [q]
                  split
                  · split
                    · split
                      · exact up_dcGo a b c r ds _ _
                      · exact .inr rfl
                    · exact .inr rfl
                  · exact .inr rfl
              · exact .inr rfl
          · exact up_dcGo a b c r ds _ _
          · exact .inr rfl
      · exact .inr rfl
    · exact .inr rfl
theorem up_dc {i i' : MI} {tg : MG} {t t' : MT} {k k' v v' : ME} {vs : List Nat} (d : UpE i i') (a : UpE t t') (b : UpE k k') (c : UpE v v') : UpE (mDc i tg t k v vs) (mDc i' tg t' k' v' vs) := fun r s => (d r s).bind fun q s1 => up_dcGo a b c _ _ _ _
theorem up_lock {α : Type} {o : ME} {m m' : Env → Sto → R α} (a : UpE m m') : UpE (mLock o m) (mLock o m') := fun r s => by
  unfold mLock
  split
  · rename_i n kvs _
    rcases a r (s.set n (.lok kvs)) with h | h
    · rw [h]; exact .inl rfl
    · rw [h]; exact .inr rfl
  · exact .inr rfl
theorem up_lockS {o : ME} {m m' : MS} (a : UpM m m') : UpM (mLockS o m) (mLockS o m') := fun r s => by
  unfold mLockS
  split
  · rename_i n kvs _
    rcases a r (s.set n (.lok kvs)) with h | h
    · rw [h]; exact .inl rfl
    · rw [h]; exact .inr rfl
  · exact .inr rfl
theorem up_def {nN np : Nat} {m m' : MS} (a : UpM m m') : UpF (mDef nN np m) (mDef nN np m') := fun ds s => by
  unfold mDef
  split
  · rcases a (ds.map some ++ List.replicate (nN - np) none) s with h | h
    · rw [h]; exact .inl rfl
    · rw [h]; exact .inr rfl
  · exact .inr rfl
/-! ### the same, found by instances -/
class UE {α : Type} (m n : Env → Sto → R α) : Prop where h : UpE m n
class US (m n : MS) : Prop where h : UpM m n
class UF (f g : MF) : Prop where h : UpF f g
instance (priority := 100000) ue_rfl {α : Type} {m : Env → Sto → R α} : UE m m := ⟨UpE.rfl'⟩
instance (priority := 100000) us_rfl {m : MS} : US m m := ⟨UpM.rfl'⟩
instance (priority := 100000) uf_rfl {m : MF} : UF m m := ⟨UpF.rfl'⟩
instance up_binI {g : G2} {m m' n n' : ME} [a : UE m m'] [b : UE n n'] : UE (mBin g m n) (mBin g m' n') := ⟨up_bin a.h b.h⟩
instance up_chainI {g g' : G2} {m m' n n' o o' : ME} [a : UE m m'] [b : UE n n'] [c : UE o o'] : UE (mChain g g' m n o) (mChain g g' m' n' o') := ⟨up_chain a.h b.h c.h⟩
instance up_andI {m m' n n' : MT} [a : UE m m'] [b : UE n n'] : UE (mAnd m n) (mAnd m' n') := ⟨up_and a.h b.h⟩
instance up_orI {m m' n n' : MT} [a : UE m m'] [b : UE n n'] : UE (mOr m n) (mOr m' n') := ⟨up_or a.h b.h⟩
instance up_notI {m m' : MT} [a : UE m m'] : UE (mNot m) (mNot m') := ⟨up_not a.h⟩
instance up_ifEI {c c' : MT} {m m' n n' : ME} [t : UE c c'] [a : UE m m'] [b : UE n n'] : UE (mIfE c m n) (mIfE c' m' n') := ⟨up_ifE t.h a.h b.h⟩
instance up_negI {m m' : ME} [a : UE m m'] : UE (mNeg m) (mNeg m') := ⟨up_neg a.h⟩
instance up_consI {m m' : ME} {n n' : MA} [a : UE m m'] [b : UE n n'] : UE (mCons m n) (mCons m' n') := ⟨up_cons a.h b.h⟩
instance up_tupI {n n' : MA} [b : UE n n'] : UE (mTup n) (mTup n') := ⟨up_tup b.h⟩
instance up_lstI {n n' : MA} [b : UE n n'] : UE (mLst n) (mLst n') := ⟨up_lst b.h⟩
instance up_newI {n n' : MA} [b : UE n n'] : UE (mNew n) (mNew n') := ⟨up_new b.h⟩
instance up_newDI {n n' : MD} [b : UE n n'] : UE (mNewD n) (mNewD n') := ⟨up_newD b.h⟩
instance up_callBI {g : GF} {n n' : MA} [b : UE n n'] : UE (mCallB g n) (mCallB g n') := ⟨up_callB b.h⟩
instance up_callFI {g : List D → Option D} {n n' : MA} [b : UE n n'] : UE (mCallF g n) (mCallF g n') := ⟨up_callF b.h⟩
instance up_callLI {g : GL} {n n' : MA} [b : UE n n'] : UE (mCallL g n) (mCallL g n') := ⟨up_callL b.h⟩
instance up_mBI {g : GM} {m m' : ME} {n n' : MA} [a : UE m m'] [b : UE n n'] : UE (mMB g m n) (mMB g m' n') := ⟨up_mB a.h b.h⟩
instance up_callI {f g : MF} {n n' : MA} [h : UF f g] [b : UE n n'] : UE (mCall f n) (mCall g n') := ⟨up_call h.h b.h⟩
instance up_call0I {f g : MF} [h : UF f g] : UE (mCall0 f) (mCall0 g) := ⟨up_call0 h.h⟩
instance up_callSI {f g : MF} [h : UF f g] : UE (mCallS f) (mCallS g) := ⟨up_callS h.h⟩
instance up_methI {C : Addr} {m : Str} {f g : MF} {o o' : ME} {n n' : MA} [h : UF f g] [a : UE o o'] [b : UE n n'] : UE (mMeth C m f o n) (mMeth C m g o' n') := ⟨up_meth h.h a.h b.h⟩
instance up_makeI {C : Addr} {f g : MF} {n n' : MA} [h : UF f g] [b : UE n n'] : UE (mMake C f n) (mMake C g n') := ⟨up_make h.h b.h⟩
instance up_fldI {cs : List Addr} {f : Str} {m m' : ME} [a : UE m m'] : UE (mFld cs f m) (mFld cs f m') := ⟨up_fld a.h⟩
instance up_revI {m m' : ME} [a : UE m m'] : UE (mRev m) (mRev m') := ⟨up_rev a.h⟩
instance up_asBI {m m' : ME} [a : UE m m'] : UE (asB m) (asB m') := ⟨up_asB a.h⟩
instance up_asTI {m m' : ME} [a : UE m m'] : UE (asT m) (asT m') := ⟨up_asT a.h⟩
instance up_ofBI {m m' : MT} [a : UE m m'] : UE (ofB m) (ofB m') := ⟨up_ofB a.h⟩
instance up_slI {m m' : ME} {l l' h h' : Option ME} [a : UE m m'] [b : UE (mPart l) (mPart l')] [c : UE (mPart h) (mPart h')] : UE (mSl m l h) (mSl m' l' h') := ⟨up_sl a.h b.h c.h⟩
instance up_someI {m m' : ME} [a : UE m m'] : UE (mPart (some m)) (mPart (some m')) := ⟨up_some a.h⟩
instance up_itI {m m' : ME} [a : UE m m'] : UE (mIt m) (mIt m') := ⟨up_it a.h⟩
instance up_rg1I {m m' : ME} [a : UE m m'] : UE (mRg1 m) (mRg1 m') := ⟨up_rg1 a.h⟩
instance up_rg2I {m m' n n' : ME} [a : UE m m'] [b : UE n n'] : UE (mRg2 m n) (mRg2 m' n') := ⟨up_rg2 a.h b.h⟩
instance up_rgs1I {m m' : ME} [a : UE m m'] : UE (mRgs1 m) (mRgs1 m') := ⟨up_rgs1 a.h⟩
instance up_rgs2I {m m' n n' : ME} [a : UE m m'] [b : UE n n'] : UE (mRgs2 m n) (mRgs2 m' n') := ⟨up_rgs2 a.h b.h⟩
instance up_tupLI {n n' : MA} [b : UE n n'] : UE (mTupL n) (mTupL n') := ⟨up_tupL b.h⟩
instance up_zipI {m m' n n' : ME} [a : UE m m'] [b : UE n n'] : UE (mZip m n) (mZip m' n') := ⟨up_zip a.h b.h⟩
instance up_enumI {m m' : ME} [a : UE m m'] : UE (mEnum m) (mEnum m') := ⟨up_enum a.h⟩
instance up_keysI {m m' : ME} [a : UE m m'] : UE (mKeys m) (mKeys m') := ⟨up_keys a.h⟩
instance up_itemsI {m m' : ME} [a : UE m m'] : UE (mItems m) (mItems m') := ⟨up_items a.h⟩
instance up_dictOfI {m m' : ME} [a : UE m m'] : UE (mDictOf m) (mDictOf m') := ⟨up_dictOf a.h⟩
instance up_dictPrI {m m' : ME} [a : UE m m'] : UE (mDictPr m) (mDictPr m') := ⟨up_dictPr a.h⟩
instance up_revLsI {m m' : ME} [a : UE m m'] : UE (mRevLs m) (mRevLs m') := ⟨up_revLs a.h⟩
instance up_srtKI {kf : KF} {m m' : ME} [a : UE m m'] : UE (mSrtK kf m) (mSrtK kf m') := ⟨up_srtK a.h⟩
instance up_get2I {o o' k k' x x' : ME} [a : UE o o'] [b : UE k k'] [c : UE x x'] : UE (mGet2 o k x) (mGet2 o' k' x') := ⟨up_get2 a.h b.h c.h⟩
instance up_dpop1I {o o' k k' : ME} [a : UE o o'] [b : UE k k'] : UE (mDPop1 o k) (mDPop1 o' k') := ⟨up_dpop1 a.h b.h⟩
instance up_asgI {m m' : ME} {g : MG} [a : UE m m'] : US (mAsg m g) (mAsg m' g) := ⟨up_asg a.h⟩
instance up_seqI {m m' n n' : MS} [a : US m m'] [b : US n n'] : US (mSeq m n) (mSeq m' n') := ⟨up_seq a.h b.h⟩
instance up_dropI {m m' : ME} [a : UE m m'] : US (mDrop m) (mDrop m') := ⟨up_drop a.h⟩
instance up_retI {m m' : ME} [a : UE m m'] : US (mRet m) (mRet m') := ⟨up_ret a.h⟩
instance up_ifI {c c' : MT} {m m' n n' : MS} [t : UE c c'] [a : US m m'] [b : US n n'] : US (mIf c m n) (mIf c' m' n') := ⟨up_if t.h a.h b.h⟩
instance (priority := 90000) up_neverI {m : MS} : US mNever m := ⟨up_never⟩
instance up_setFldI {cs : List Addr} {f : Str} {o o' v v' : ME} [a : UE o o'] [b : UE v v'] : US (mSetFld cs f o v) (mSetFld cs f o' v') := ⟨up_setFld a.h b.h⟩
instance up_fldAugI {op : Int → Int → Int} {cs : List Addr} {f : Str} {o o' v v' : ME} [a : UE o o'] [b : UE v v'] : US (mFldAug op cs f o v) (mFldAug op cs f o' v') := ⟨up_fldAug a.h b.h⟩
instance up_setIxI {v v' o o' i i' : ME} [c : UE v v'] [a : UE o o'] [b : UE i i'] : US (mSetIx v o i) (mSetIx v' o' i') := ⟨up_setIx c.h a.h b.h⟩
instance up_parI {i j : Nat} {n n' : MA} [b : UE n n'] : US (mPar i j n) (mPar i j n') := ⟨up_par b.h⟩
instance up_par3I {i j l : Nat} {n n' : MA} [b : UE n n'] : US (mPar3 i j l n) (mPar3 i j l n') := ⟨up_par3 b.h⟩
instance up_swapI {o i u j : ME} {n n' : MA} [b : UE n n'] : US (mSwap n o i u j) (mSwap n' o i u j) := ⟨up_swap b.h⟩
instance up_forI {i i' : MI} {tg : MG} {b b' : MS} [a : UE i i'] [h : US b b'] : US (mFor i tg b) (mFor i' tg b') := ⟨up_for a.h h.h⟩
instance up_whI {c c' : MT} {b b' : MS} [t : UE c c'] [h : US b b'] : US (mWh c b) (mWh c' b') := ⟨up_wh t.h h.h⟩
instance up_lcI {i i' : MI} {tg : MG} {t t' : MT} {e e' : ME} {vs : List Nat} [c : UE i i'] [a : UE t t'] [b : UE e e'] : UE (mLc i tg t e vs) (mLc i' tg t' e' vs) := ⟨up_lc c.h a.h b.h⟩
instance up_dcI {i i' : MI} {tg : MG} {t t' : MT} {k k' v v' : ME} {vs : List Nat} [d : UE i i'] [a : UE t t'] [b : UE k k'] [c : UE v v'] : UE (mDc i tg t k v vs) (mDc i' tg t' k' v' vs) := ⟨up_dc d.h a.h b.h c.h⟩
instance up_lockI {α : Type} {o : ME} {m m' : Env → Sto → R α} [a : UE m m'] : UE (mLock o m) (mLock o m') := ⟨up_lock a.h⟩
instance up_lockSI {o : ME} {m m' : MS} [a : US m m'] : US (mLockS o m) (mLockS o m') := ⟨up_lockS a.h⟩
instance up_defI {nN np : Nat} {m m' : MS} [a : US m m'] : UF (mDef nN np m) (mDef nN np m') := ⟨up_def a.h⟩
end DL
end
/-! ### H5 -/
section
set_option linter.all false
set_option maxRecDepth 100000
set_option maxHeartbeats 4000000
/-! H5: asked, six classes told apart. -/
namespace DL
open PySem PySem.Spec L2
open PyProof.Rows hiding St
structure NeB (A : Str → Addr) : Prop where
  n01 : A "BadDisk" ≠ A "NoCell"
  n02 : A "BadDisk" ≠ A "NoThing"
  n03 : A "BadDisk" ≠ A "NothingWaits"
  n04 : A "BadDisk" ≠ A "Stopped"
  n05 : A "BadDisk" ≠ A "NoNumber"
  n10 : A "NoCell" ≠ A "BadDisk"
  n12 : A "NoCell" ≠ A "NoThing"
  n13 : A "NoCell" ≠ A "NothingWaits"
  n14 : A "NoCell" ≠ A "Stopped"
  n15 : A "NoCell" ≠ A "NoNumber"
  n20 : A "NoThing" ≠ A "BadDisk"
  n21 : A "NoThing" ≠ A "NoCell"
  n23 : A "NoThing" ≠ A "NothingWaits"
  n24 : A "NoThing" ≠ A "Stopped"
  n25 : A "NoThing" ≠ A "NoNumber"
  n30 : A "NothingWaits" ≠ A "BadDisk"
  n31 : A "NothingWaits" ≠ A "NoCell"
  n32 : A "NothingWaits" ≠ A "NoThing"
  n34 : A "NothingWaits" ≠ A "Stopped"
  n35 : A "NothingWaits" ≠ A "NoNumber"
  n40 : A "Stopped" ≠ A "BadDisk"
  n41 : A "Stopped" ≠ A "NoCell"
  n42 : A "Stopped" ≠ A "NoThing"
  n43 : A "Stopped" ≠ A "NothingWaits"
  n45 : A "Stopped" ≠ A "NoNumber"
  n50 : A "NoNumber" ≠ A "BadDisk"
  n51 : A "NoNumber" ≠ A "NoCell"
  n52 : A "NoNumber" ≠ A "NoThing"
  n53 : A "NoNumber" ≠ A "NothingWaits"
  n54 : A "NoNumber" ≠ A "Stopped"
theorem asked_told3 (A : Str → Addr) {f : Addr} {act : Act} {s s' : Sto} {d : D} (h : act s = .ok d s') : l_law_asked_3 A f act [.con (.ref f)] s = .ok (.tup [.str "told", d]) s' := by
  have e1 : mAct f 0 act [some (.con (.ref f)), none, none, none] s = .ok d s' := by
    unfold mAct
    rw [if_pos (by rfl), h]
  have hm : mAsg (mTup (mCons (mC (.str "told")) (mCons (mAct f 0 act) mNil))) (mgName 1) [some (.con (.ref f)), none, none, none] s = .nx [some (.con (.ref f)), some (.tup [.str "told", d]), none, none] s' := by
    simp [mAsg, mTup, mCons, mNil, mC, e1, mgName, show 2 ≤ sizeLine from small24 (by omega)]
  unfold l_law_asked_3 mDef
  rw [if_pos (show [D.con (.ref f)].length = 1 from rfl)]
  show (match mSeq _ _ [some (.con (.ref f)), none, none, none] s with
      | .nx _ s1 => R.ok D.non s1
      | .rt d s1 => R.ok d s1
      | .exc e _ s1 => R.exc e s1
      | _ => R.bad) = _
  rw [seq_nx (try_nx hm), ret_of (d := .tup [.str "told", d]) (s1 := s') (by simp [mVar])]
theorem ref_neV {x y : Addr} (h : x ≠ y) : (V.ref x == V.ref y) = false := beq_eq_false_iff_ne.mpr fun e => h (V.ref.inj e)
theorem ref_neA {x y : Addr} (h : x ≠ y) : (x == y) = false := beq_eq_false_iff_ne.mpr h
theorem ty_neV (x : Addr) : (V.ty "ValueError" == V.ref x) = false := beq_eq_false_iff_ne.mpr fun e => by cases e
def flagR0 : List D := [.bl true, .bl false, .bl false, .bl false, .bl false, .bl false]
theorem py_flagR0 {s : Sto} {m : Nat} (h : s[m]? = some (.lst flagR0)) : (D.loc m).py s = some (.list [.bool true, .bool false, .bool false, .bool false, .bool false, .bool false]) := by
  simp [D.py, D.pyW, locPy, h, flagR0, D.pysW]
theorem flag_layR0 : SeqAt.shaped (.list [.bool true, .bool false, .bool false, .bool false, .bool false, .bool false]) = true := by
  simp [SeqAt.shaped, PyData.canLay0, PyData.canLayAll0, PyData.depth, PyData.depthAll]
theorem gCount_flagR0 {s : Sto} {m : Nat} (h : s[m]? = some (.lst flagR0)) : gCount (.loc m) [.bl true] s = some (.int 1, s) := by
  simp only [gCount, py_flagR0 h, show (D.bl true).py s = some (.bool true) from rfl]
  rw [if_pos ⟨flag_layR0, by simp [SeqAt.shaped, PyData.canLay0, PyData.depth], by simp [PyData.plainAll, PyData.plain], by simp [PyData.plain]⟩]
  simp [PyData.eqv]
theorem gIndex_flagR0 {s : Sto} {m : Nat} (h : s[m]? = some (.lst flagR0)) : gIndex (.loc m) [.bl true] s = some (.int 0, s) := by
  simp only [gIndex, py_flagR0 h, show (D.bl true).py s = some (.bool true) from rfl]
  rw [if_pos ⟨flag_layR0, by simp [SeqAt.shaped, PyData.canLay0, PyData.depth]⟩]
  simp [PyData.eqv, List.findIdx?_cons]
def refQ0 : Sto := [.lst [.bl true, .bl false, .bl false, .bl false], .lst [.bl false, .bl false], .lst [.bl true, .bl false, .bl false, .bl false, .bl false, .bl false], .lst namesQ]
theorem asked_ref0 (A : Str → Addr) {f : Addr} {act : Act} {s s' : Sto} (n : NeB A)
    (h : act s = .exc ⟨A "BadDisk", none⟩ s') : l_law_asked_3 A f act [.con (.ref f)] s = .ok (.tup [.str "refused", .str "disk"]) (s' ++ refQ0) := by
  have e1 : mAct f 0 act [some (.con (.ref f)), none, none, none] s = .exc ⟨A "BadDisk", none⟩ s' := by
    unfold mAct
    rw [if_pos (by rfl), h]
  have hm : mAsg (mTup (mCons (mC (.str "told")) (mCons (mAct f 0 act) mNil))) (mgName 1) [some (.con (.ref f)), none, none, none] s = .exc ⟨A "BadDisk", none⟩ [some (.con (.ref f)), none, none, none] s' := by
    simp [mAsg, mTup, mCons, mNil, mC, e1]
  obtain ⟨I, hI⟩ : ∃ I, I = isaL [(A "BadDisk", [(V.ref (A "NothingWaits"), false), (V.ref (A "NoThing"), false), (V.ref (A "NoCell"), false), (V.ref (A "BadDisk"), true), (V.ref (A "NoNumber"), false), (V.ref (A "Stopped"), false), (V.ty "ValueError", true)]), (A "NoCell", [(V.ref (A "NothingWaits"), false), (V.ref (A "NoThing"), false), (V.ref (A "NoCell"), true), (V.ref (A "BadDisk"), false), (V.ref (A "NoNumber"), false), (V.ref (A "Stopped"), false), (V.ty "ValueError", true)]), (A "NoThing", [(V.ref (A "NothingWaits"), false), (V.ref (A "NoThing"), true), (V.ref (A "NoCell"), false), (V.ref (A "BadDisk"), false), (V.ref (A "NoNumber"), false), (V.ref (A "Stopped"), false), (V.ty "ValueError", true)]), (A "NothingWaits", [(V.ref (A "NothingWaits"), true), (V.ref (A "NoThing"), false), (V.ref (A "NoCell"), false), (V.ref (A "BadDisk"), false), (V.ref (A "NoNumber"), false), (V.ref (A "Stopped"), false), (V.ty "ValueError", true)]), (A "Stopped", [(V.ref (A "NothingWaits"), false), (V.ref (A "NoThing"), false), (V.ref (A "NoCell"), false), (V.ref (A "BadDisk"), false), (V.ref (A "NoNumber"), false), (V.ref (A "Stopped"), true), (V.ty "ValueError", true)]), (A "NoNumber", [(V.ref (A "NothingWaits"), false), (V.ref (A "NoThing"), false), (V.ref (A "NoCell"), false), (V.ref (A "BadDisk"), false), (V.ref (A "NoNumber"), true), (V.ref (A "Stopped"), false), (V.ty "ValueError", true)])] (A "BadDisk") := ⟨_, rfl⟩
  have i0 : ∀ c, I c = List.lookup c [(V.ref (A "NothingWaits"), false), (V.ref (A "NoThing"), false), (V.ref (A "NoCell"), false), (V.ref (A "BadDisk"), true), (V.ref (A "NoNumber"), false), (V.ref (A "Stopped"), false), (V.ty "ValueError", true)] := fun c => by rw [hI]; simp [isaL, List.lookup, ref_neA n.n01, ref_neA n.n02, ref_neA n.n03, ref_neA n.n04, ref_neA n.n05, ref_neA n.n10, ref_neA n.n20, ref_neA n.n30, ref_neA n.n40, ref_neA n.n50]
  have j0 : I (.ref (A "BadDisk")) = some true := by rw [i0]; simp [List.lookup, ref_neV n.n01, ref_neV n.n02, ref_neV n.n03, ref_neV n.n04, ref_neV n.n05, ref_neV n.n10, ref_neV n.n12, ref_neV n.n13, ref_neV n.n14, ref_neV n.n15, ref_neV n.n20, ref_neV n.n21, ref_neV n.n23, ref_neV n.n24, ref_neV n.n25, ref_neV n.n30, ref_neV n.n31, ref_neV n.n32, ref_neV n.n34, ref_neV n.n35, ref_neV n.n40, ref_neV n.n41, ref_neV n.n42, ref_neV n.n43, ref_neV n.n45, ref_neV n.n50, ref_neV n.n51, ref_neV n.n52, ref_neV n.n53, ref_neV n.n54]
  have j1 : I (.ref (A "NoCell")) = some false := by rw [i0]; simp [List.lookup, ref_neV n.n01, ref_neV n.n02, ref_neV n.n03, ref_neV n.n04, ref_neV n.n05, ref_neV n.n10, ref_neV n.n12, ref_neV n.n13, ref_neV n.n14, ref_neV n.n15, ref_neV n.n20, ref_neV n.n21, ref_neV n.n23, ref_neV n.n24, ref_neV n.n25, ref_neV n.n30, ref_neV n.n31, ref_neV n.n32, ref_neV n.n34, ref_neV n.n35, ref_neV n.n40, ref_neV n.n41, ref_neV n.n42, ref_neV n.n43, ref_neV n.n45, ref_neV n.n50, ref_neV n.n51, ref_neV n.n52, ref_neV n.n53, ref_neV n.n54]
  have j2 : I (.ref (A "NoThing")) = some false := by rw [i0]; simp [List.lookup, ref_neV n.n01, ref_neV n.n02, ref_neV n.n03, ref_neV n.n04, ref_neV n.n05, ref_neV n.n10, ref_neV n.n12, ref_neV n.n13, ref_neV n.n14, ref_neV n.n15, ref_neV n.n20, ref_neV n.n21, ref_neV n.n23, ref_neV n.n24, ref_neV n.n25, ref_neV n.n30, ref_neV n.n31, ref_neV n.n32, ref_neV n.n34, ref_neV n.n35, ref_neV n.n40, ref_neV n.n41, ref_neV n.n42, ref_neV n.n43, ref_neV n.n45, ref_neV n.n50, ref_neV n.n51, ref_neV n.n52, ref_neV n.n53, ref_neV n.n54]
  have j3 : I (.ref (A "NothingWaits")) = some false := by rw [i0]; simp [List.lookup, ref_neV n.n01, ref_neV n.n02, ref_neV n.n03, ref_neV n.n04, ref_neV n.n05, ref_neV n.n10, ref_neV n.n12, ref_neV n.n13, ref_neV n.n14, ref_neV n.n15, ref_neV n.n20, ref_neV n.n21, ref_neV n.n23, ref_neV n.n24, ref_neV n.n25, ref_neV n.n30, ref_neV n.n31, ref_neV n.n32, ref_neV n.n34, ref_neV n.n35, ref_neV n.n40, ref_neV n.n41, ref_neV n.n42, ref_neV n.n43, ref_neV n.n45, ref_neV n.n50, ref_neV n.n51, ref_neV n.n52, ref_neV n.n53, ref_neV n.n54]
  have j4 : I (.ref (A "Stopped")) = some false := by rw [i0]; simp [List.lookup, ref_neV n.n01, ref_neV n.n02, ref_neV n.n03, ref_neV n.n04, ref_neV n.n05, ref_neV n.n10, ref_neV n.n12, ref_neV n.n13, ref_neV n.n14, ref_neV n.n15, ref_neV n.n20, ref_neV n.n21, ref_neV n.n23, ref_neV n.n24, ref_neV n.n25, ref_neV n.n30, ref_neV n.n31, ref_neV n.n32, ref_neV n.n34, ref_neV n.n35, ref_neV n.n40, ref_neV n.n41, ref_neV n.n42, ref_neV n.n43, ref_neV n.n45, ref_neV n.n50, ref_neV n.n51, ref_neV n.n52, ref_neV n.n53, ref_neV n.n54]
  have j5 : I (.ref (A "NoNumber")) = some false := by rw [i0]; simp [List.lookup, ref_neV n.n01, ref_neV n.n02, ref_neV n.n03, ref_neV n.n04, ref_neV n.n05, ref_neV n.n10, ref_neV n.n12, ref_neV n.n13, ref_neV n.n14, ref_neV n.n15, ref_neV n.n20, ref_neV n.n21, ref_neV n.n23, ref_neV n.n24, ref_neV n.n25, ref_neV n.n30, ref_neV n.n31, ref_neV n.n32, ref_neV n.n34, ref_neV n.n35, ref_neV n.n40, ref_neV n.n41, ref_neV n.n42, ref_neV n.n43, ref_neV n.n45, ref_neV n.n50, ref_neV n.n51, ref_neV n.n52, ref_neV n.n53, ref_neV n.n54]
  have j7 : I (.ty "ValueError") = some true := by
    rw [i0]
    simp [List.lookup, ty_neV]
  unfold l_law_asked_3 mDef
  rw [if_pos (show [D.con (.ref f)].length = 1 from rfl)]
  show (match mSeq _ _ [some (.con (.ref f)), none, none, none] s with
      | .nx _ s1 => R.ok D.non s1
      | .rt d s1 => R.ok d s1
      | .exc e _ s1 => R.exc e s1
      | _ => R.bad) = _
  rw [seq_nx (mTry_exc (x := .nx [some (.con (.ref f)), some (.tup [.str "refused", .str "disk"]), none, some (.loc (s'.length + 2))] (s' ++ refQ0)) hm (by simp [List.lookup, ref_neA n.n01, ref_neA n.n02, ref_neA n.n03, ref_neA n.n04, ref_neA n.n05, ref_neA n.n10, ref_neA n.n20, ref_neA n.n30, ref_neA n.n40, ref_neA n.n50]) fun a => ?_), ret_of (d := .tup [.str "refused", .str "disk"]) (s1 := s' ++ refQ0) (by simp [mVar])]
  refine (congrArg (unsetS 2) (nx_of (r0 := [some (.con (.ref f)), some (.tup [.str "refused", .str "disk"]), some (.con (.ref a)), some (.loc (s'.length + 2))]) (s0 := s' ++ refQ0) ?_)).trans (by simp [unsetS])
  rw [← hI]
  have gI : ∀ {c : V} {b : Bool} {s : Sto}, I c = some b → gIsE I a [.con (.ref a), .con c] s = some (.bl b, s) := fun h => by simp [gIsE, h]
  have z2 : 2 ≤ sizeLine := small24 (by omega)
  have z4 : 4 ≤ sizeLine := small24 (by omega)
  have z6 : 6 ≤ sizeLine := small24 (by omega)
  have m1 : (s' ++ [Ob.lst [D.bl true, D.bl false, D.bl false, D.bl false], Ob.lst [D.bl false, D.bl false]])[s'.length]? = some (.lst [D.bl true, D.bl false, D.bl false, D.bl false]) := by simp
  have m2 : (s' ++ [Ob.lst [D.bl true, D.bl false, D.bl false, D.bl false], Ob.lst [D.bl false, D.bl false]])[s'.length + 1]? = some (.lst [D.bl false, D.bl false]) := by simp
  have m3 := gAdd_rows m1 m2 (by simpa using z6)
  have m4 : (s' ++ [Ob.lst [D.bl true, D.bl false, D.bl false, D.bl false], Ob.lst [D.bl false, D.bl false]] ++ [Ob.lst ([D.bl true, D.bl false, D.bl false, D.bl false] ++ [D.bl false, D.bl false])])[s'.length + 2]? = some (.lst flagR0) := by simp [flagR0]
  simp [gI j0, gI j1, gI j2, gI j3, gI j4, gI j5, gI j7, z2, z4, z6]
  have len2 : (s' ++ [Ob.lst [D.bl true, D.bl false, D.bl false, D.bl false], Ob.lst [D.bl false, D.bl false]]).length = s'.length + 2 := by simp
  rw [m3, len2]
  simp only [RW_of_some]
  have len3 : (s' ++ [Ob.lst [D.bl true, D.bl false, D.bl false, D.bl false], Ob.lst [D.bl false, D.bl false]] ++ [Ob.lst ([D.bl true, D.bl false, D.bl false, D.bl false] ++ [D.bl false, D.bl false])]).length = s'.length + 3 := by simp
  generalize hs3 : (s' ++ [Ob.lst [D.bl true, D.bl false, D.bl false, D.bl false], Ob.lst [D.bl false, D.bl false]] ++ [Ob.lst ([D.bl true, D.bl false, D.bl false, D.bl false] ++ [D.bl false, D.bl false])]) = s3 at *
  refine ⟨by simp [itL, m4], ?_⟩
  rw [gCount_flagR0 m4]
  simp only [RW_of_some, gEq_int]
  refine ⟨rfl, by simp [itL, get_push m4], ?_⟩
  rw [gIndex_flagR0 (get_push m4)]
  simp only [RW_of_some]
  rw [gIx_lst last_of]
  refine ⟨⟨by first | rfl | trivial, by first | rfl | trivial⟩, ?_⟩
  rw [← hs3]
  simp [refQ0, flagR0, namesQ]
def flagR1 : List D := [.bl false, .bl true, .bl false, .bl false, .bl false, .bl false]
theorem py_flagR1 {s : Sto} {m : Nat} (h : s[m]? = some (.lst flagR1)) : (D.loc m).py s = some (.list [.bool false, .bool true, .bool false, .bool false, .bool false, .bool false]) := by
  simp [D.py, D.pyW, locPy, h, flagR1, D.pysW]
theorem flag_layR1 : SeqAt.shaped (.list [.bool false, .bool true, .bool false, .bool false, .bool false, .bool false]) = true := by
  simp [SeqAt.shaped, PyData.canLay0, PyData.canLayAll0, PyData.depth, PyData.depthAll]
theorem gCount_flagR1 {s : Sto} {m : Nat} (h : s[m]? = some (.lst flagR1)) : gCount (.loc m) [.bl true] s = some (.int 1, s) := by
  simp only [gCount, py_flagR1 h, show (D.bl true).py s = some (.bool true) from rfl]
  rw [if_pos ⟨flag_layR1, by simp [SeqAt.shaped, PyData.canLay0, PyData.depth], by simp [PyData.plainAll, PyData.plain], by simp [PyData.plain]⟩]
  simp [PyData.eqv]
theorem gIndex_flagR1 {s : Sto} {m : Nat} (h : s[m]? = some (.lst flagR1)) : gIndex (.loc m) [.bl true] s = some (.int 1, s) := by
  simp only [gIndex, py_flagR1 h, show (D.bl true).py s = some (.bool true) from rfl]
  rw [if_pos ⟨flag_layR1, by simp [SeqAt.shaped, PyData.canLay0, PyData.depth]⟩]
  simp [PyData.eqv, List.findIdx?_cons]
def refQ1 : Sto := [.lst [.bl false, .bl true, .bl false, .bl false], .lst [.bl false, .bl false], .lst [.bl false, .bl true, .bl false, .bl false, .bl false, .bl false], .lst namesQ]
theorem asked_ref1 (A : Str → Addr) {f : Addr} {act : Act} {s s' : Sto} (n : NeB A)
    (h : act s = .exc ⟨A "NoCell", none⟩ s') : l_law_asked_3 A f act [.con (.ref f)] s = .ok (.tup [.str "refused", .str "cell"]) (s' ++ refQ1) := by
  have e1 : mAct f 0 act [some (.con (.ref f)), none, none, none] s = .exc ⟨A "NoCell", none⟩ s' := by
    unfold mAct
    rw [if_pos (by rfl), h]
  have hm : mAsg (mTup (mCons (mC (.str "told")) (mCons (mAct f 0 act) mNil))) (mgName 1) [some (.con (.ref f)), none, none, none] s = .exc ⟨A "NoCell", none⟩ [some (.con (.ref f)), none, none, none] s' := by
    simp [mAsg, mTup, mCons, mNil, mC, e1]
  obtain ⟨I, hI⟩ : ∃ I, I = isaL [(A "BadDisk", [(V.ref (A "NothingWaits"), false), (V.ref (A "NoThing"), false), (V.ref (A "NoCell"), false), (V.ref (A "BadDisk"), true), (V.ref (A "NoNumber"), false), (V.ref (A "Stopped"), false), (V.ty "ValueError", true)]), (A "NoCell", [(V.ref (A "NothingWaits"), false), (V.ref (A "NoThing"), false), (V.ref (A "NoCell"), true), (V.ref (A "BadDisk"), false), (V.ref (A "NoNumber"), false), (V.ref (A "Stopped"), false), (V.ty "ValueError", true)]), (A "NoThing", [(V.ref (A "NothingWaits"), false), (V.ref (A "NoThing"), true), (V.ref (A "NoCell"), false), (V.ref (A "BadDisk"), false), (V.ref (A "NoNumber"), false), (V.ref (A "Stopped"), false), (V.ty "ValueError", true)]), (A "NothingWaits", [(V.ref (A "NothingWaits"), true), (V.ref (A "NoThing"), false), (V.ref (A "NoCell"), false), (V.ref (A "BadDisk"), false), (V.ref (A "NoNumber"), false), (V.ref (A "Stopped"), false), (V.ty "ValueError", true)]), (A "Stopped", [(V.ref (A "NothingWaits"), false), (V.ref (A "NoThing"), false), (V.ref (A "NoCell"), false), (V.ref (A "BadDisk"), false), (V.ref (A "NoNumber"), false), (V.ref (A "Stopped"), true), (V.ty "ValueError", true)]), (A "NoNumber", [(V.ref (A "NothingWaits"), false), (V.ref (A "NoThing"), false), (V.ref (A "NoCell"), false), (V.ref (A "BadDisk"), false), (V.ref (A "NoNumber"), true), (V.ref (A "Stopped"), false), (V.ty "ValueError", true)])] (A "NoCell") := ⟨_, rfl⟩
  have i0 : ∀ c, I c = List.lookup c [(V.ref (A "NothingWaits"), false), (V.ref (A "NoThing"), false), (V.ref (A "NoCell"), true), (V.ref (A "BadDisk"), false), (V.ref (A "NoNumber"), false), (V.ref (A "Stopped"), false), (V.ty "ValueError", true)] := fun c => by rw [hI]; simp [isaL, List.lookup, ref_neA n.n10, ref_neA n.n12, ref_neA n.n13, ref_neA n.n14, ref_neA n.n15, ref_neA n.n01, ref_neA n.n21, ref_neA n.n31, ref_neA n.n41, ref_neA n.n51]
  have j0 : I (.ref (A "BadDisk")) = some false := by rw [i0]; simp [List.lookup, ref_neV n.n01, ref_neV n.n02, ref_neV n.n03, ref_neV n.n04, ref_neV n.n05, ref_neV n.n10, ref_neV n.n12, ref_neV n.n13, ref_neV n.n14, ref_neV n.n15, ref_neV n.n20, ref_neV n.n21, ref_neV n.n23, ref_neV n.n24, ref_neV n.n25, ref_neV n.n30, ref_neV n.n31, ref_neV n.n32, ref_neV n.n34, ref_neV n.n35, ref_neV n.n40, ref_neV n.n41, ref_neV n.n42, ref_neV n.n43, ref_neV n.n45, ref_neV n.n50, ref_neV n.n51, ref_neV n.n52, ref_neV n.n53, ref_neV n.n54]
  have j1 : I (.ref (A "NoCell")) = some true := by rw [i0]; simp [List.lookup, ref_neV n.n01, ref_neV n.n02, ref_neV n.n03, ref_neV n.n04, ref_neV n.n05, ref_neV n.n10, ref_neV n.n12, ref_neV n.n13, ref_neV n.n14, ref_neV n.n15, ref_neV n.n20, ref_neV n.n21, ref_neV n.n23, ref_neV n.n24, ref_neV n.n25, ref_neV n.n30, ref_neV n.n31, ref_neV n.n32, ref_neV n.n34, ref_neV n.n35, ref_neV n.n40, ref_neV n.n41, ref_neV n.n42, ref_neV n.n43, ref_neV n.n45, ref_neV n.n50, ref_neV n.n51, ref_neV n.n52, ref_neV n.n53, ref_neV n.n54]
  have j2 : I (.ref (A "NoThing")) = some false := by rw [i0]; simp [List.lookup, ref_neV n.n01, ref_neV n.n02, ref_neV n.n03, ref_neV n.n04, ref_neV n.n05, ref_neV n.n10, ref_neV n.n12, ref_neV n.n13, ref_neV n.n14, ref_neV n.n15, ref_neV n.n20, ref_neV n.n21, ref_neV n.n23, ref_neV n.n24, ref_neV n.n25, ref_neV n.n30, ref_neV n.n31, ref_neV n.n32, ref_neV n.n34, ref_neV n.n35, ref_neV n.n40, ref_neV n.n41, ref_neV n.n42, ref_neV n.n43, ref_neV n.n45, ref_neV n.n50, ref_neV n.n51, ref_neV n.n52, ref_neV n.n53, ref_neV n.n54]
  have j3 : I (.ref (A "NothingWaits")) = some false := by rw [i0]; simp [List.lookup, ref_neV n.n01, ref_neV n.n02, ref_neV n.n03, ref_neV n.n04, ref_neV n.n05, ref_neV n.n10, ref_neV n.n12, ref_neV n.n13, ref_neV n.n14, ref_neV n.n15, ref_neV n.n20, ref_neV n.n21, ref_neV n.n23, ref_neV n.n24, ref_neV n.n25, ref_neV n.n30, ref_neV n.n31, ref_neV n.n32, ref_neV n.n34, ref_neV n.n35, ref_neV n.n40, ref_neV n.n41, ref_neV n.n42, ref_neV n.n43, ref_neV n.n45, ref_neV n.n50, ref_neV n.n51, ref_neV n.n52, ref_neV n.n53, ref_neV n.n54]
  have j4 : I (.ref (A "Stopped")) = some false := by rw [i0]; simp [List.lookup, ref_neV n.n01, ref_neV n.n02, ref_neV n.n03, ref_neV n.n04, ref_neV n.n05, ref_neV n.n10, ref_neV n.n12, ref_neV n.n13, ref_neV n.n14, ref_neV n.n15, ref_neV n.n20, ref_neV n.n21, ref_neV n.n23, ref_neV n.n24, ref_neV n.n25, ref_neV n.n30, ref_neV n.n31, ref_neV n.n32, ref_neV n.n34, ref_neV n.n35, ref_neV n.n40, ref_neV n.n41, ref_neV n.n42, ref_neV n.n43, ref_neV n.n45, ref_neV n.n50, ref_neV n.n51, ref_neV n.n52, ref_neV n.n53, ref_neV n.n54]
  have j5 : I (.ref (A "NoNumber")) = some false := by rw [i0]; simp [List.lookup, ref_neV n.n01, ref_neV n.n02, ref_neV n.n03, ref_neV n.n04, ref_neV n.n05, ref_neV n.n10, ref_neV n.n12, ref_neV n.n13, ref_neV n.n14, ref_neV n.n15, ref_neV n.n20, ref_neV n.n21, ref_neV n.n23, ref_neV n.n24, ref_neV n.n25, ref_neV n.n30, ref_neV n.n31, ref_neV n.n32, ref_neV n.n34, ref_neV n.n35, ref_neV n.n40, ref_neV n.n41, ref_neV n.n42, ref_neV n.n43, ref_neV n.n45, ref_neV n.n50, ref_neV n.n51, ref_neV n.n52, ref_neV n.n53, ref_neV n.n54]
  have j7 : I (.ty "ValueError") = some true := by
    rw [i0]
    simp [List.lookup, ty_neV]
  unfold l_law_asked_3 mDef
  rw [if_pos (show [D.con (.ref f)].length = 1 from rfl)]
  show (match mSeq _ _ [some (.con (.ref f)), none, none, none] s with
      | .nx _ s1 => R.ok D.non s1
      | .rt d s1 => R.ok d s1
      | .exc e _ s1 => R.exc e s1
      | _ => R.bad) = _
  rw [seq_nx (mTry_exc (x := .nx [some (.con (.ref f)), some (.tup [.str "refused", .str "cell"]), none, some (.loc (s'.length + 2))] (s' ++ refQ1)) hm (by simp [List.lookup, ref_neA n.n10, ref_neA n.n12, ref_neA n.n13, ref_neA n.n14, ref_neA n.n15, ref_neA n.n01, ref_neA n.n21, ref_neA n.n31, ref_neA n.n41, ref_neA n.n51]) fun a => ?_), ret_of (d := .tup [.str "refused", .str "cell"]) (s1 := s' ++ refQ1) (by simp [mVar])]
  refine (congrArg (unsetS 2) (nx_of (r0 := [some (.con (.ref f)), some (.tup [.str "refused", .str "cell"]), some (.con (.ref a)), some (.loc (s'.length + 2))]) (s0 := s' ++ refQ1) ?_)).trans (by simp [unsetS])
  rw [← hI]
  have gI : ∀ {c : V} {b : Bool} {s : Sto}, I c = some b → gIsE I a [.con (.ref a), .con c] s = some (.bl b, s) := fun h => by simp [gIsE, h]
  have z2 : 2 ≤ sizeLine := small24 (by omega)
  have z4 : 4 ≤ sizeLine := small24 (by omega)
  have z6 : 6 ≤ sizeLine := small24 (by omega)
  have m1 : (s' ++ [Ob.lst [D.bl false, D.bl true, D.bl false, D.bl false], Ob.lst [D.bl false, D.bl false]])[s'.length]? = some (.lst [D.bl false, D.bl true, D.bl false, D.bl false]) := by simp
  have m2 : (s' ++ [Ob.lst [D.bl false, D.bl true, D.bl false, D.bl false], Ob.lst [D.bl false, D.bl false]])[s'.length + 1]? = some (.lst [D.bl false, D.bl false]) := by simp
  have m3 := gAdd_rows m1 m2 (by simpa using z6)
  have m4 : (s' ++ [Ob.lst [D.bl false, D.bl true, D.bl false, D.bl false], Ob.lst [D.bl false, D.bl false]] ++ [Ob.lst ([D.bl false, D.bl true, D.bl false, D.bl false] ++ [D.bl false, D.bl false])])[s'.length + 2]? = some (.lst flagR1) := by simp [flagR1]
  simp [gI j0, gI j1, gI j2, gI j3, gI j4, gI j5, gI j7, z2, z4, z6]
  have len2 : (s' ++ [Ob.lst [D.bl false, D.bl true, D.bl false, D.bl false], Ob.lst [D.bl false, D.bl false]]).length = s'.length + 2 := by simp
  rw [m3, len2]
  simp only [RW_of_some]
  have len3 : (s' ++ [Ob.lst [D.bl false, D.bl true, D.bl false, D.bl false], Ob.lst [D.bl false, D.bl false]] ++ [Ob.lst ([D.bl false, D.bl true, D.bl false, D.bl false] ++ [D.bl false, D.bl false])]).length = s'.length + 3 := by simp
  generalize hs3 : (s' ++ [Ob.lst [D.bl false, D.bl true, D.bl false, D.bl false], Ob.lst [D.bl false, D.bl false]] ++ [Ob.lst ([D.bl false, D.bl true, D.bl false, D.bl false] ++ [D.bl false, D.bl false])]) = s3 at *
  refine ⟨by simp [itL, m4], ?_⟩
  rw [gCount_flagR1 m4]
  simp only [RW_of_some, gEq_int]
  refine ⟨rfl, by simp [itL, get_push m4], ?_⟩
  rw [gIndex_flagR1 (get_push m4)]
  simp only [RW_of_some]
  rw [gIx_lst last_of]
  refine ⟨⟨by first | rfl | trivial, by first | rfl | trivial⟩, ?_⟩
  rw [← hs3]
  simp [refQ1, flagR1, namesQ]
def flagR2 : List D := [.bl false, .bl false, .bl true, .bl false, .bl false, .bl false]
theorem py_flagR2 {s : Sto} {m : Nat} (h : s[m]? = some (.lst flagR2)) : (D.loc m).py s = some (.list [.bool false, .bool false, .bool true, .bool false, .bool false, .bool false]) := by
  simp [D.py, D.pyW, locPy, h, flagR2, D.pysW]
theorem flag_layR2 : SeqAt.shaped (.list [.bool false, .bool false, .bool true, .bool false, .bool false, .bool false]) = true := by
  simp [SeqAt.shaped, PyData.canLay0, PyData.canLayAll0, PyData.depth, PyData.depthAll]
theorem gCount_flagR2 {s : Sto} {m : Nat} (h : s[m]? = some (.lst flagR2)) : gCount (.loc m) [.bl true] s = some (.int 1, s) := by
  simp only [gCount, py_flagR2 h, show (D.bl true).py s = some (.bool true) from rfl]
  rw [if_pos ⟨flag_layR2, by simp [SeqAt.shaped, PyData.canLay0, PyData.depth], by simp [PyData.plainAll, PyData.plain], by simp [PyData.plain]⟩]
  simp [PyData.eqv]
theorem gIndex_flagR2 {s : Sto} {m : Nat} (h : s[m]? = some (.lst flagR2)) : gIndex (.loc m) [.bl true] s = some (.int 2, s) := by
  simp only [gIndex, py_flagR2 h, show (D.bl true).py s = some (.bool true) from rfl]
  rw [if_pos ⟨flag_layR2, by simp [SeqAt.shaped, PyData.canLay0, PyData.depth]⟩]
  simp [PyData.eqv, List.findIdx?_cons]
def refQ2 : Sto := [.lst [.bl false, .bl false, .bl true, .bl false], .lst [.bl false, .bl false], .lst [.bl false, .bl false, .bl true, .bl false, .bl false, .bl false], .lst namesQ]
theorem asked_ref2 (A : Str → Addr) {f : Addr} {act : Act} {s s' : Sto} (n : NeB A)
    (h : act s = .exc ⟨A "NoThing", none⟩ s') : l_law_asked_3 A f act [.con (.ref f)] s = .ok (.tup [.str "refused", .str "thing"]) (s' ++ refQ2) := by
  have e1 : mAct f 0 act [some (.con (.ref f)), none, none, none] s = .exc ⟨A "NoThing", none⟩ s' := by
    unfold mAct
    rw [if_pos (by rfl), h]
  have hm : mAsg (mTup (mCons (mC (.str "told")) (mCons (mAct f 0 act) mNil))) (mgName 1) [some (.con (.ref f)), none, none, none] s = .exc ⟨A "NoThing", none⟩ [some (.con (.ref f)), none, none, none] s' := by
    simp [mAsg, mTup, mCons, mNil, mC, e1]
  obtain ⟨I, hI⟩ : ∃ I, I = isaL [(A "BadDisk", [(V.ref (A "NothingWaits"), false), (V.ref (A "NoThing"), false), (V.ref (A "NoCell"), false), (V.ref (A "BadDisk"), true), (V.ref (A "NoNumber"), false), (V.ref (A "Stopped"), false), (V.ty "ValueError", true)]), (A "NoCell", [(V.ref (A "NothingWaits"), false), (V.ref (A "NoThing"), false), (V.ref (A "NoCell"), true), (V.ref (A "BadDisk"), false), (V.ref (A "NoNumber"), false), (V.ref (A "Stopped"), false), (V.ty "ValueError", true)]), (A "NoThing", [(V.ref (A "NothingWaits"), false), (V.ref (A "NoThing"), true), (V.ref (A "NoCell"), false), (V.ref (A "BadDisk"), false), (V.ref (A "NoNumber"), false), (V.ref (A "Stopped"), false), (V.ty "ValueError", true)]), (A "NothingWaits", [(V.ref (A "NothingWaits"), true), (V.ref (A "NoThing"), false), (V.ref (A "NoCell"), false), (V.ref (A "BadDisk"), false), (V.ref (A "NoNumber"), false), (V.ref (A "Stopped"), false), (V.ty "ValueError", true)]), (A "Stopped", [(V.ref (A "NothingWaits"), false), (V.ref (A "NoThing"), false), (V.ref (A "NoCell"), false), (V.ref (A "BadDisk"), false), (V.ref (A "NoNumber"), false), (V.ref (A "Stopped"), true), (V.ty "ValueError", true)]), (A "NoNumber", [(V.ref (A "NothingWaits"), false), (V.ref (A "NoThing"), false), (V.ref (A "NoCell"), false), (V.ref (A "BadDisk"), false), (V.ref (A "NoNumber"), true), (V.ref (A "Stopped"), false), (V.ty "ValueError", true)])] (A "NoThing") := ⟨_, rfl⟩
  have i0 : ∀ c, I c = List.lookup c [(V.ref (A "NothingWaits"), false), (V.ref (A "NoThing"), true), (V.ref (A "NoCell"), false), (V.ref (A "BadDisk"), false), (V.ref (A "NoNumber"), false), (V.ref (A "Stopped"), false), (V.ty "ValueError", true)] := fun c => by rw [hI]; simp [isaL, List.lookup, ref_neA n.n20, ref_neA n.n21, ref_neA n.n23, ref_neA n.n24, ref_neA n.n25, ref_neA n.n02, ref_neA n.n12, ref_neA n.n32, ref_neA n.n42, ref_neA n.n52]
  have j0 : I (.ref (A "BadDisk")) = some false := by rw [i0]; simp [List.lookup, ref_neV n.n01, ref_neV n.n02, ref_neV n.n03, ref_neV n.n04, ref_neV n.n05, ref_neV n.n10, ref_neV n.n12, ref_neV n.n13, ref_neV n.n14, ref_neV n.n15, ref_neV n.n20, ref_neV n.n21, ref_neV n.n23, ref_neV n.n24, ref_neV n.n25, ref_neV n.n30, ref_neV n.n31, ref_neV n.n32, ref_neV n.n34, ref_neV n.n35, ref_neV n.n40, ref_neV n.n41, ref_neV n.n42, ref_neV n.n43, ref_neV n.n45, ref_neV n.n50, ref_neV n.n51, ref_neV n.n52, ref_neV n.n53, ref_neV n.n54]
  have j1 : I (.ref (A "NoCell")) = some false := by rw [i0]; simp [List.lookup, ref_neV n.n01, ref_neV n.n02, ref_neV n.n03, ref_neV n.n04, ref_neV n.n05, ref_neV n.n10, ref_neV n.n12, ref_neV n.n13, ref_neV n.n14, ref_neV n.n15, ref_neV n.n20, ref_neV n.n21, ref_neV n.n23, ref_neV n.n24, ref_neV n.n25, ref_neV n.n30, ref_neV n.n31, ref_neV n.n32, ref_neV n.n34, ref_neV n.n35, ref_neV n.n40, ref_neV n.n41, ref_neV n.n42, ref_neV n.n43, ref_neV n.n45, ref_neV n.n50, ref_neV n.n51, ref_neV n.n52, ref_neV n.n53, ref_neV n.n54]
  have j2 : I (.ref (A "NoThing")) = some true := by rw [i0]; simp [List.lookup, ref_neV n.n01, ref_neV n.n02, ref_neV n.n03, ref_neV n.n04, ref_neV n.n05, ref_neV n.n10, ref_neV n.n12, ref_neV n.n13, ref_neV n.n14, ref_neV n.n15, ref_neV n.n20, ref_neV n.n21, ref_neV n.n23, ref_neV n.n24, ref_neV n.n25, ref_neV n.n30, ref_neV n.n31, ref_neV n.n32, ref_neV n.n34, ref_neV n.n35, ref_neV n.n40, ref_neV n.n41, ref_neV n.n42, ref_neV n.n43, ref_neV n.n45, ref_neV n.n50, ref_neV n.n51, ref_neV n.n52, ref_neV n.n53, ref_neV n.n54]
  have j3 : I (.ref (A "NothingWaits")) = some false := by rw [i0]; simp [List.lookup, ref_neV n.n01, ref_neV n.n02, ref_neV n.n03, ref_neV n.n04, ref_neV n.n05, ref_neV n.n10, ref_neV n.n12, ref_neV n.n13, ref_neV n.n14, ref_neV n.n15, ref_neV n.n20, ref_neV n.n21, ref_neV n.n23, ref_neV n.n24, ref_neV n.n25, ref_neV n.n30, ref_neV n.n31, ref_neV n.n32, ref_neV n.n34, ref_neV n.n35, ref_neV n.n40, ref_neV n.n41, ref_neV n.n42, ref_neV n.n43, ref_neV n.n45, ref_neV n.n50, ref_neV n.n51, ref_neV n.n52, ref_neV n.n53, ref_neV n.n54]
  have j4 : I (.ref (A "Stopped")) = some false := by rw [i0]; simp [List.lookup, ref_neV n.n01, ref_neV n.n02, ref_neV n.n03, ref_neV n.n04, ref_neV n.n05, ref_neV n.n10, ref_neV n.n12, ref_neV n.n13, ref_neV n.n14, ref_neV n.n15, ref_neV n.n20, ref_neV n.n21, ref_neV n.n23, ref_neV n.n24, ref_neV n.n25, ref_neV n.n30, ref_neV n.n31, ref_neV n.n32, ref_neV n.n34, ref_neV n.n35, ref_neV n.n40, ref_neV n.n41, ref_neV n.n42, ref_neV n.n43, ref_neV n.n45, ref_neV n.n50, ref_neV n.n51, ref_neV n.n52, ref_neV n.n53, ref_neV n.n54]
  have j5 : I (.ref (A "NoNumber")) = some false := by rw [i0]; simp [List.lookup, ref_neV n.n01, ref_neV n.n02, ref_neV n.n03, ref_neV n.n04, ref_neV n.n05, ref_neV n.n10, ref_neV n.n12, ref_neV n.n13, ref_neV n.n14, ref_neV n.n15, ref_neV n.n20, ref_neV n.n21, ref_neV n.n23, ref_neV n.n24, ref_neV n.n25, ref_neV n.n30, ref_neV n.n31, ref_neV n.n32, ref_neV n.n34, ref_neV n.n35, ref_neV n.n40, ref_neV n.n41, ref_neV n.n42, ref_neV n.n43, ref_neV n.n45, ref_neV n.n50, ref_neV n.n51, ref_neV n.n52, ref_neV n.n53, ref_neV n.n54]
  have j7 : I (.ty "ValueError") = some true := by
    rw [i0]
    simp [List.lookup, ty_neV]
  unfold l_law_asked_3 mDef
  rw [if_pos (show [D.con (.ref f)].length = 1 from rfl)]
  show (match mSeq _ _ [some (.con (.ref f)), none, none, none] s with
      | .nx _ s1 => R.ok D.non s1
      | .rt d s1 => R.ok d s1
      | .exc e _ s1 => R.exc e s1
      | _ => R.bad) = _
  rw [seq_nx (mTry_exc (x := .nx [some (.con (.ref f)), some (.tup [.str "refused", .str "thing"]), none, some (.loc (s'.length + 2))] (s' ++ refQ2)) hm (by simp [List.lookup, ref_neA n.n20, ref_neA n.n21, ref_neA n.n23, ref_neA n.n24, ref_neA n.n25, ref_neA n.n02, ref_neA n.n12, ref_neA n.n32, ref_neA n.n42, ref_neA n.n52]) fun a => ?_), ret_of (d := .tup [.str "refused", .str "thing"]) (s1 := s' ++ refQ2) (by simp [mVar])]
  refine (congrArg (unsetS 2) (nx_of (r0 := [some (.con (.ref f)), some (.tup [.str "refused", .str "thing"]), some (.con (.ref a)), some (.loc (s'.length + 2))]) (s0 := s' ++ refQ2) ?_)).trans (by simp [unsetS])
  rw [← hI]
  have gI : ∀ {c : V} {b : Bool} {s : Sto}, I c = some b → gIsE I a [.con (.ref a), .con c] s = some (.bl b, s) := fun h => by simp [gIsE, h]
  have z2 : 2 ≤ sizeLine := small24 (by omega)
  have z4 : 4 ≤ sizeLine := small24 (by omega)
  have z6 : 6 ≤ sizeLine := small24 (by omega)
  have m1 : (s' ++ [Ob.lst [D.bl false, D.bl false, D.bl true, D.bl false], Ob.lst [D.bl false, D.bl false]])[s'.length]? = some (.lst [D.bl false, D.bl false, D.bl true, D.bl false]) := by simp
  have m2 : (s' ++ [Ob.lst [D.bl false, D.bl false, D.bl true, D.bl false], Ob.lst [D.bl false, D.bl false]])[s'.length + 1]? = some (.lst [D.bl false, D.bl false]) := by simp
  have m3 := gAdd_rows m1 m2 (by simpa using z6)
  have m4 : (s' ++ [Ob.lst [D.bl false, D.bl false, D.bl true, D.bl false], Ob.lst [D.bl false, D.bl false]] ++ [Ob.lst ([D.bl false, D.bl false, D.bl true, D.bl false] ++ [D.bl false, D.bl false])])[s'.length + 2]? = some (.lst flagR2) := by simp [flagR2]
  simp [gI j0, gI j1, gI j2, gI j3, gI j4, gI j5, gI j7, z2, z4, z6]
  have len2 : (s' ++ [Ob.lst [D.bl false, D.bl false, D.bl true, D.bl false], Ob.lst [D.bl false, D.bl false]]).length = s'.length + 2 := by simp
  rw [m3, len2]
  simp only [RW_of_some]
  have len3 : (s' ++ [Ob.lst [D.bl false, D.bl false, D.bl true, D.bl false], Ob.lst [D.bl false, D.bl false]] ++ [Ob.lst ([D.bl false, D.bl false, D.bl true, D.bl false] ++ [D.bl false, D.bl false])]).length = s'.length + 3 := by simp
  generalize hs3 : (s' ++ [Ob.lst [D.bl false, D.bl false, D.bl true, D.bl false], Ob.lst [D.bl false, D.bl false]] ++ [Ob.lst ([D.bl false, D.bl false, D.bl true, D.bl false] ++ [D.bl false, D.bl false])]) = s3 at *
  refine ⟨by simp [itL, m4], ?_⟩
  rw [gCount_flagR2 m4]
  simp only [RW_of_some, gEq_int]
  refine ⟨rfl, by simp [itL, get_push m4], ?_⟩
  rw [gIndex_flagR2 (get_push m4)]
  simp only [RW_of_some]
  rw [gIx_lst last_of]
  refine ⟨⟨by first | rfl | trivial, by first | rfl | trivial⟩, ?_⟩
  rw [← hs3]
  simp [refQ2, flagR2, namesQ]
def flagR3 : List D := [.bl false, .bl false, .bl false, .bl true, .bl false, .bl false]
theorem py_flagR3 {s : Sto} {m : Nat} (h : s[m]? = some (.lst flagR3)) : (D.loc m).py s = some (.list [.bool false, .bool false, .bool false, .bool true, .bool false, .bool false]) := by
  simp [D.py, D.pyW, locPy, h, flagR3, D.pysW]
theorem flag_layR3 : SeqAt.shaped (.list [.bool false, .bool false, .bool false, .bool true, .bool false, .bool false]) = true := by
  simp [SeqAt.shaped, PyData.canLay0, PyData.canLayAll0, PyData.depth, PyData.depthAll]
theorem gCount_flagR3 {s : Sto} {m : Nat} (h : s[m]? = some (.lst flagR3)) : gCount (.loc m) [.bl true] s = some (.int 1, s) := by
  simp only [gCount, py_flagR3 h, show (D.bl true).py s = some (.bool true) from rfl]
  rw [if_pos ⟨flag_layR3, by simp [SeqAt.shaped, PyData.canLay0, PyData.depth], by simp [PyData.plainAll, PyData.plain], by simp [PyData.plain]⟩]
  simp [PyData.eqv]
theorem gIndex_flagR3 {s : Sto} {m : Nat} (h : s[m]? = some (.lst flagR3)) : gIndex (.loc m) [.bl true] s = some (.int 3, s) := by
  simp only [gIndex, py_flagR3 h, show (D.bl true).py s = some (.bool true) from rfl]
  rw [if_pos ⟨flag_layR3, by simp [SeqAt.shaped, PyData.canLay0, PyData.depth]⟩]
  simp [PyData.eqv, List.findIdx?_cons]
def refQ3 : Sto := [.lst [.bl false, .bl false, .bl false, .bl true], .lst [.bl false, .bl false], .lst [.bl false, .bl false, .bl false, .bl true, .bl false, .bl false], .lst namesQ]
theorem asked_ref3 (A : Str → Addr) {f : Addr} {act : Act} {s s' : Sto} (n : NeB A)
    (h : act s = .exc ⟨A "NothingWaits", none⟩ s') : l_law_asked_3 A f act [.con (.ref f)] s = .ok (.tup [.str "refused", .str "nothing"]) (s' ++ refQ3) := by
  have e1 : mAct f 0 act [some (.con (.ref f)), none, none, none] s = .exc ⟨A "NothingWaits", none⟩ s' := by
    unfold mAct
    rw [if_pos (by rfl), h]
  have hm : mAsg (mTup (mCons (mC (.str "told")) (mCons (mAct f 0 act) mNil))) (mgName 1) [some (.con (.ref f)), none, none, none] s = .exc ⟨A "NothingWaits", none⟩ [some (.con (.ref f)), none, none, none] s' := by
    simp [mAsg, mTup, mCons, mNil, mC, e1]
  obtain ⟨I, hI⟩ : ∃ I, I = isaL [(A "BadDisk", [(V.ref (A "NothingWaits"), false), (V.ref (A "NoThing"), false), (V.ref (A "NoCell"), false), (V.ref (A "BadDisk"), true), (V.ref (A "NoNumber"), false), (V.ref (A "Stopped"), false), (V.ty "ValueError", true)]), (A "NoCell", [(V.ref (A "NothingWaits"), false), (V.ref (A "NoThing"), false), (V.ref (A "NoCell"), true), (V.ref (A "BadDisk"), false), (V.ref (A "NoNumber"), false), (V.ref (A "Stopped"), false), (V.ty "ValueError", true)]), (A "NoThing", [(V.ref (A "NothingWaits"), false), (V.ref (A "NoThing"), true), (V.ref (A "NoCell"), false), (V.ref (A "BadDisk"), false), (V.ref (A "NoNumber"), false), (V.ref (A "Stopped"), false), (V.ty "ValueError", true)]), (A "NothingWaits", [(V.ref (A "NothingWaits"), true), (V.ref (A "NoThing"), false), (V.ref (A "NoCell"), false), (V.ref (A "BadDisk"), false), (V.ref (A "NoNumber"), false), (V.ref (A "Stopped"), false), (V.ty "ValueError", true)]), (A "Stopped", [(V.ref (A "NothingWaits"), false), (V.ref (A "NoThing"), false), (V.ref (A "NoCell"), false), (V.ref (A "BadDisk"), false), (V.ref (A "NoNumber"), false), (V.ref (A "Stopped"), true), (V.ty "ValueError", true)]), (A "NoNumber", [(V.ref (A "NothingWaits"), false), (V.ref (A "NoThing"), false), (V.ref (A "NoCell"), false), (V.ref (A "BadDisk"), false), (V.ref (A "NoNumber"), true), (V.ref (A "Stopped"), false), (V.ty "ValueError", true)])] (A "NothingWaits") := ⟨_, rfl⟩
  have i0 : ∀ c, I c = List.lookup c [(V.ref (A "NothingWaits"), true), (V.ref (A "NoThing"), false), (V.ref (A "NoCell"), false), (V.ref (A "BadDisk"), false), (V.ref (A "NoNumber"), false), (V.ref (A "Stopped"), false), (V.ty "ValueError", true)] := fun c => by rw [hI]; simp [isaL, List.lookup, ref_neA n.n30, ref_neA n.n31, ref_neA n.n32, ref_neA n.n34, ref_neA n.n35, ref_neA n.n03, ref_neA n.n13, ref_neA n.n23, ref_neA n.n43, ref_neA n.n53]
  have j0 : I (.ref (A "BadDisk")) = some false := by rw [i0]; simp [List.lookup, ref_neV n.n01, ref_neV n.n02, ref_neV n.n03, ref_neV n.n04, ref_neV n.n05, ref_neV n.n10, ref_neV n.n12, ref_neV n.n13, ref_neV n.n14, ref_neV n.n15, ref_neV n.n20, ref_neV n.n21, ref_neV n.n23, ref_neV n.n24, ref_neV n.n25, ref_neV n.n30, ref_neV n.n31, ref_neV n.n32, ref_neV n.n34, ref_neV n.n35, ref_neV n.n40, ref_neV n.n41, ref_neV n.n42, ref_neV n.n43, ref_neV n.n45, ref_neV n.n50, ref_neV n.n51, ref_neV n.n52, ref_neV n.n53, ref_neV n.n54]
  have j1 : I (.ref (A "NoCell")) = some false := by rw [i0]; simp [List.lookup, ref_neV n.n01, ref_neV n.n02, ref_neV n.n03, ref_neV n.n04, ref_neV n.n05, ref_neV n.n10, ref_neV n.n12, ref_neV n.n13, ref_neV n.n14, ref_neV n.n15, ref_neV n.n20, ref_neV n.n21, ref_neV n.n23, ref_neV n.n24, ref_neV n.n25, ref_neV n.n30, ref_neV n.n31, ref_neV n.n32, ref_neV n.n34, ref_neV n.n35, ref_neV n.n40, ref_neV n.n41, ref_neV n.n42, ref_neV n.n43, ref_neV n.n45, ref_neV n.n50, ref_neV n.n51, ref_neV n.n52, ref_neV n.n53, ref_neV n.n54]
  have j2 : I (.ref (A "NoThing")) = some false := by rw [i0]; simp [List.lookup, ref_neV n.n01, ref_neV n.n02, ref_neV n.n03, ref_neV n.n04, ref_neV n.n05, ref_neV n.n10, ref_neV n.n12, ref_neV n.n13, ref_neV n.n14, ref_neV n.n15, ref_neV n.n20, ref_neV n.n21, ref_neV n.n23, ref_neV n.n24, ref_neV n.n25, ref_neV n.n30, ref_neV n.n31, ref_neV n.n32, ref_neV n.n34, ref_neV n.n35, ref_neV n.n40, ref_neV n.n41, ref_neV n.n42, ref_neV n.n43, ref_neV n.n45, ref_neV n.n50, ref_neV n.n51, ref_neV n.n52, ref_neV n.n53, ref_neV n.n54]
  have j3 : I (.ref (A "NothingWaits")) = some true := by rw [i0]; simp [List.lookup, ref_neV n.n01, ref_neV n.n02, ref_neV n.n03, ref_neV n.n04, ref_neV n.n05, ref_neV n.n10, ref_neV n.n12, ref_neV n.n13, ref_neV n.n14, ref_neV n.n15, ref_neV n.n20, ref_neV n.n21, ref_neV n.n23, ref_neV n.n24, ref_neV n.n25, ref_neV n.n30, ref_neV n.n31, ref_neV n.n32, ref_neV n.n34, ref_neV n.n35, ref_neV n.n40, ref_neV n.n41, ref_neV n.n42, ref_neV n.n43, ref_neV n.n45, ref_neV n.n50, ref_neV n.n51, ref_neV n.n52, ref_neV n.n53, ref_neV n.n54]
  have j4 : I (.ref (A "Stopped")) = some false := by rw [i0]; simp [List.lookup, ref_neV n.n01, ref_neV n.n02, ref_neV n.n03, ref_neV n.n04, ref_neV n.n05, ref_neV n.n10, ref_neV n.n12, ref_neV n.n13, ref_neV n.n14, ref_neV n.n15, ref_neV n.n20, ref_neV n.n21, ref_neV n.n23, ref_neV n.n24, ref_neV n.n25, ref_neV n.n30, ref_neV n.n31, ref_neV n.n32, ref_neV n.n34, ref_neV n.n35, ref_neV n.n40, ref_neV n.n41, ref_neV n.n42, ref_neV n.n43, ref_neV n.n45, ref_neV n.n50, ref_neV n.n51, ref_neV n.n52, ref_neV n.n53, ref_neV n.n54]
  have j5 : I (.ref (A "NoNumber")) = some false := by rw [i0]; simp [List.lookup, ref_neV n.n01, ref_neV n.n02, ref_neV n.n03, ref_neV n.n04, ref_neV n.n05, ref_neV n.n10, ref_neV n.n12, ref_neV n.n13, ref_neV n.n14, ref_neV n.n15, ref_neV n.n20, ref_neV n.n21, ref_neV n.n23, ref_neV n.n24, ref_neV n.n25, ref_neV n.n30, ref_neV n.n31, ref_neV n.n32, ref_neV n.n34, ref_neV n.n35, ref_neV n.n40, ref_neV n.n41, ref_neV n.n42, ref_neV n.n43, ref_neV n.n45, ref_neV n.n50, ref_neV n.n51, ref_neV n.n52, ref_neV n.n53, ref_neV n.n54]
  have j7 : I (.ty "ValueError") = some true := by
    rw [i0]
    simp [List.lookup, ty_neV]
  unfold l_law_asked_3 mDef
  rw [if_pos (show [D.con (.ref f)].length = 1 from rfl)]
  show (match mSeq _ _ [some (.con (.ref f)), none, none, none] s with
      | .nx _ s1 => R.ok D.non s1
      | .rt d s1 => R.ok d s1
      | .exc e _ s1 => R.exc e s1
      | _ => R.bad) = _
  rw [seq_nx (mTry_exc (x := .nx [some (.con (.ref f)), some (.tup [.str "refused", .str "nothing"]), none, some (.loc (s'.length + 2))] (s' ++ refQ3)) hm (by simp [List.lookup, ref_neA n.n30, ref_neA n.n31, ref_neA n.n32, ref_neA n.n34, ref_neA n.n35, ref_neA n.n03, ref_neA n.n13, ref_neA n.n23, ref_neA n.n43, ref_neA n.n53]) fun a => ?_), ret_of (d := .tup [.str "refused", .str "nothing"]) (s1 := s' ++ refQ3) (by simp [mVar])]
  refine (congrArg (unsetS 2) (nx_of (r0 := [some (.con (.ref f)), some (.tup [.str "refused", .str "nothing"]), some (.con (.ref a)), some (.loc (s'.length + 2))]) (s0 := s' ++ refQ3) ?_)).trans (by simp [unsetS])
  rw [← hI]
  have gI : ∀ {c : V} {b : Bool} {s : Sto}, I c = some b → gIsE I a [.con (.ref a), .con c] s = some (.bl b, s) := fun h => by simp [gIsE, h]
  have z2 : 2 ≤ sizeLine := small24 (by omega)
  have z4 : 4 ≤ sizeLine := small24 (by omega)
  have z6 : 6 ≤ sizeLine := small24 (by omega)
  have m1 : (s' ++ [Ob.lst [D.bl false, D.bl false, D.bl false, D.bl true], Ob.lst [D.bl false, D.bl false]])[s'.length]? = some (.lst [D.bl false, D.bl false, D.bl false, D.bl true]) := by simp
  have m2 : (s' ++ [Ob.lst [D.bl false, D.bl false, D.bl false, D.bl true], Ob.lst [D.bl false, D.bl false]])[s'.length + 1]? = some (.lst [D.bl false, D.bl false]) := by simp
  have m3 := gAdd_rows m1 m2 (by simpa using z6)
  have m4 : (s' ++ [Ob.lst [D.bl false, D.bl false, D.bl false, D.bl true], Ob.lst [D.bl false, D.bl false]] ++ [Ob.lst ([D.bl false, D.bl false, D.bl false, D.bl true] ++ [D.bl false, D.bl false])])[s'.length + 2]? = some (.lst flagR3) := by simp [flagR3]
  simp [gI j0, gI j1, gI j2, gI j3, gI j4, gI j5, gI j7, z2, z4, z6]
  have len2 : (s' ++ [Ob.lst [D.bl false, D.bl false, D.bl false, D.bl true], Ob.lst [D.bl false, D.bl false]]).length = s'.length + 2 := by simp
  rw [m3, len2]
  simp only [RW_of_some]
  have len3 : (s' ++ [Ob.lst [D.bl false, D.bl false, D.bl false, D.bl true], Ob.lst [D.bl false, D.bl false]] ++ [Ob.lst ([D.bl false, D.bl false, D.bl false, D.bl true] ++ [D.bl false, D.bl false])]).length = s'.length + 3 := by simp
  generalize hs3 : (s' ++ [Ob.lst [D.bl false, D.bl false, D.bl false, D.bl true], Ob.lst [D.bl false, D.bl false]] ++ [Ob.lst ([D.bl false, D.bl false, D.bl false, D.bl true] ++ [D.bl false, D.bl false])]) = s3 at *
  refine ⟨by simp [itL, m4], ?_⟩
  rw [gCount_flagR3 m4]
  simp only [RW_of_some, gEq_int]
  refine ⟨rfl, by simp [itL, get_push m4], ?_⟩
  rw [gIndex_flagR3 (get_push m4)]
  simp only [RW_of_some]
  rw [gIx_lst last_of]
  refine ⟨⟨by first | rfl | trivial, by first | rfl | trivial⟩, ?_⟩
  rw [← hs3]
  simp [refQ3, flagR3, namesQ]
def flagR4 : List D := [.bl false, .bl false, .bl false, .bl false, .bl true, .bl false]
theorem py_flagR4 {s : Sto} {m : Nat} (h : s[m]? = some (.lst flagR4)) : (D.loc m).py s = some (.list [.bool false, .bool false, .bool false, .bool false, .bool true, .bool false]) := by
  simp [D.py, D.pyW, locPy, h, flagR4, D.pysW]
theorem flag_layR4 : SeqAt.shaped (.list [.bool false, .bool false, .bool false, .bool false, .bool true, .bool false]) = true := by
  simp [SeqAt.shaped, PyData.canLay0, PyData.canLayAll0, PyData.depth, PyData.depthAll]
theorem gCount_flagR4 {s : Sto} {m : Nat} (h : s[m]? = some (.lst flagR4)) : gCount (.loc m) [.bl true] s = some (.int 1, s) := by
  simp only [gCount, py_flagR4 h, show (D.bl true).py s = some (.bool true) from rfl]
  rw [if_pos ⟨flag_layR4, by simp [SeqAt.shaped, PyData.canLay0, PyData.depth], by simp [PyData.plainAll, PyData.plain], by simp [PyData.plain]⟩]
  simp [PyData.eqv]
theorem gIndex_flagR4 {s : Sto} {m : Nat} (h : s[m]? = some (.lst flagR4)) : gIndex (.loc m) [.bl true] s = some (.int 4, s) := by
  simp only [gIndex, py_flagR4 h, show (D.bl true).py s = some (.bool true) from rfl]
  rw [if_pos ⟨flag_layR4, by simp [SeqAt.shaped, PyData.canLay0, PyData.depth]⟩]
  simp [PyData.eqv, List.findIdx?_cons]
def refQ4 : Sto := [.lst [.bl false, .bl false, .bl false, .bl false], .lst [.bl true, .bl false], .lst [.bl false, .bl false, .bl false, .bl false, .bl true, .bl false], .lst namesQ]
theorem asked_ref4 (A : Str → Addr) {f : Addr} {act : Act} {s s' : Sto} (n : NeB A)
    (h : act s = .exc ⟨A "Stopped", none⟩ s') : l_law_asked_3 A f act [.con (.ref f)] s = .ok (.tup [.str "refused", .str "stopped"]) (s' ++ refQ4) := by
  have e1 : mAct f 0 act [some (.con (.ref f)), none, none, none] s = .exc ⟨A "Stopped", none⟩ s' := by
    unfold mAct
    rw [if_pos (by rfl), h]
  have hm : mAsg (mTup (mCons (mC (.str "told")) (mCons (mAct f 0 act) mNil))) (mgName 1) [some (.con (.ref f)), none, none, none] s = .exc ⟨A "Stopped", none⟩ [some (.con (.ref f)), none, none, none] s' := by
    simp [mAsg, mTup, mCons, mNil, mC, e1]
  obtain ⟨I, hI⟩ : ∃ I, I = isaL [(A "BadDisk", [(V.ref (A "NothingWaits"), false), (V.ref (A "NoThing"), false), (V.ref (A "NoCell"), false), (V.ref (A "BadDisk"), true), (V.ref (A "NoNumber"), false), (V.ref (A "Stopped"), false), (V.ty "ValueError", true)]), (A "NoCell", [(V.ref (A "NothingWaits"), false), (V.ref (A "NoThing"), false), (V.ref (A "NoCell"), true), (V.ref (A "BadDisk"), false), (V.ref (A "NoNumber"), false), (V.ref (A "Stopped"), false), (V.ty "ValueError", true)]), (A "NoThing", [(V.ref (A "NothingWaits"), false), (V.ref (A "NoThing"), true), (V.ref (A "NoCell"), false), (V.ref (A "BadDisk"), false), (V.ref (A "NoNumber"), false), (V.ref (A "Stopped"), false), (V.ty "ValueError", true)]), (A "NothingWaits", [(V.ref (A "NothingWaits"), true), (V.ref (A "NoThing"), false), (V.ref (A "NoCell"), false), (V.ref (A "BadDisk"), false), (V.ref (A "NoNumber"), false), (V.ref (A "Stopped"), false), (V.ty "ValueError", true)]), (A "Stopped", [(V.ref (A "NothingWaits"), false), (V.ref (A "NoThing"), false), (V.ref (A "NoCell"), false), (V.ref (A "BadDisk"), false), (V.ref (A "NoNumber"), false), (V.ref (A "Stopped"), true), (V.ty "ValueError", true)]), (A "NoNumber", [(V.ref (A "NothingWaits"), false), (V.ref (A "NoThing"), false), (V.ref (A "NoCell"), false), (V.ref (A "BadDisk"), false), (V.ref (A "NoNumber"), true), (V.ref (A "Stopped"), false), (V.ty "ValueError", true)])] (A "Stopped") := ⟨_, rfl⟩
  have i0 : ∀ c, I c = List.lookup c [(V.ref (A "NothingWaits"), false), (V.ref (A "NoThing"), false), (V.ref (A "NoCell"), false), (V.ref (A "BadDisk"), false), (V.ref (A "NoNumber"), false), (V.ref (A "Stopped"), true), (V.ty "ValueError", true)] := fun c => by rw [hI]; simp [isaL, List.lookup, ref_neA n.n40, ref_neA n.n41, ref_neA n.n42, ref_neA n.n43, ref_neA n.n45, ref_neA n.n04, ref_neA n.n14, ref_neA n.n24, ref_neA n.n34, ref_neA n.n54]
  have j0 : I (.ref (A "BadDisk")) = some false := by rw [i0]; simp [List.lookup, ref_neV n.n01, ref_neV n.n02, ref_neV n.n03, ref_neV n.n04, ref_neV n.n05, ref_neV n.n10, ref_neV n.n12, ref_neV n.n13, ref_neV n.n14, ref_neV n.n15, ref_neV n.n20, ref_neV n.n21, ref_neV n.n23, ref_neV n.n24, ref_neV n.n25, ref_neV n.n30, ref_neV n.n31, ref_neV n.n32, ref_neV n.n34, ref_neV n.n35, ref_neV n.n40, ref_neV n.n41, ref_neV n.n42, ref_neV n.n43, ref_neV n.n45, ref_neV n.n50, ref_neV n.n51, ref_neV n.n52, ref_neV n.n53, ref_neV n.n54]
  have j1 : I (.ref (A "NoCell")) = some false := by rw [i0]; simp [List.lookup, ref_neV n.n01, ref_neV n.n02, ref_neV n.n03, ref_neV n.n04, ref_neV n.n05, ref_neV n.n10, ref_neV n.n12, ref_neV n.n13, ref_neV n.n14, ref_neV n.n15, ref_neV n.n20, ref_neV n.n21, ref_neV n.n23, ref_neV n.n24, ref_neV n.n25, ref_neV n.n30, ref_neV n.n31, ref_neV n.n32, ref_neV n.n34, ref_neV n.n35, ref_neV n.n40, ref_neV n.n41, ref_neV n.n42, ref_neV n.n43, ref_neV n.n45, ref_neV n.n50, ref_neV n.n51, ref_neV n.n52, ref_neV n.n53, ref_neV n.n54]
  have j2 : I (.ref (A "NoThing")) = some false := by rw [i0]; simp [List.lookup, ref_neV n.n01, ref_neV n.n02, ref_neV n.n03, ref_neV n.n04, ref_neV n.n05, ref_neV n.n10, ref_neV n.n12, ref_neV n.n13, ref_neV n.n14, ref_neV n.n15, ref_neV n.n20, ref_neV n.n21, ref_neV n.n23, ref_neV n.n24, ref_neV n.n25, ref_neV n.n30, ref_neV n.n31, ref_neV n.n32, ref_neV n.n34, ref_neV n.n35, ref_neV n.n40, ref_neV n.n41, ref_neV n.n42, ref_neV n.n43, ref_neV n.n45, ref_neV n.n50, ref_neV n.n51, ref_neV n.n52, ref_neV n.n53, ref_neV n.n54]
  have j3 : I (.ref (A "NothingWaits")) = some false := by rw [i0]; simp [List.lookup, ref_neV n.n01, ref_neV n.n02, ref_neV n.n03, ref_neV n.n04, ref_neV n.n05, ref_neV n.n10, ref_neV n.n12, ref_neV n.n13, ref_neV n.n14, ref_neV n.n15, ref_neV n.n20, ref_neV n.n21, ref_neV n.n23, ref_neV n.n24, ref_neV n.n25, ref_neV n.n30, ref_neV n.n31, ref_neV n.n32, ref_neV n.n34, ref_neV n.n35, ref_neV n.n40, ref_neV n.n41, ref_neV n.n42, ref_neV n.n43, ref_neV n.n45, ref_neV n.n50, ref_neV n.n51, ref_neV n.n52, ref_neV n.n53, ref_neV n.n54]
  have j4 : I (.ref (A "Stopped")) = some true := by rw [i0]; simp [List.lookup, ref_neV n.n01, ref_neV n.n02, ref_neV n.n03, ref_neV n.n04, ref_neV n.n05, ref_neV n.n10, ref_neV n.n12, ref_neV n.n13, ref_neV n.n14, ref_neV n.n15, ref_neV n.n20, ref_neV n.n21, ref_neV n.n23, ref_neV n.n24, ref_neV n.n25, ref_neV n.n30, ref_neV n.n31, ref_neV n.n32, ref_neV n.n34, ref_neV n.n35, ref_neV n.n40, ref_neV n.n41, ref_neV n.n42, ref_neV n.n43, ref_neV n.n45, ref_neV n.n50, ref_neV n.n51, ref_neV n.n52, ref_neV n.n53, ref_neV n.n54]
  have j5 : I (.ref (A "NoNumber")) = some false := by rw [i0]; simp [List.lookup, ref_neV n.n01, ref_neV n.n02, ref_neV n.n03, ref_neV n.n04, ref_neV n.n05, ref_neV n.n10, ref_neV n.n12, ref_neV n.n13, ref_neV n.n14, ref_neV n.n15, ref_neV n.n20, ref_neV n.n21, ref_neV n.n23, ref_neV n.n24, ref_neV n.n25, ref_neV n.n30, ref_neV n.n31, ref_neV n.n32, ref_neV n.n34, ref_neV n.n35, ref_neV n.n40, ref_neV n.n41, ref_neV n.n42, ref_neV n.n43, ref_neV n.n45, ref_neV n.n50, ref_neV n.n51, ref_neV n.n52, ref_neV n.n53, ref_neV n.n54]
  have j7 : I (.ty "ValueError") = some true := by
    rw [i0]
    simp [List.lookup, ty_neV]
  unfold l_law_asked_3 mDef
  rw [if_pos (show [D.con (.ref f)].length = 1 from rfl)]
  show (match mSeq _ _ [some (.con (.ref f)), none, none, none] s with
      | .nx _ s1 => R.ok D.non s1
      | .rt d s1 => R.ok d s1
      | .exc e _ s1 => R.exc e s1
      | _ => R.bad) = _
  rw [seq_nx (mTry_exc (x := .nx [some (.con (.ref f)), some (.tup [.str "refused", .str "stopped"]), none, some (.loc (s'.length + 2))] (s' ++ refQ4)) hm (by simp [List.lookup, ref_neA n.n40, ref_neA n.n41, ref_neA n.n42, ref_neA n.n43, ref_neA n.n45, ref_neA n.n04, ref_neA n.n14, ref_neA n.n24, ref_neA n.n34, ref_neA n.n54]) fun a => ?_), ret_of (d := .tup [.str "refused", .str "stopped"]) (s1 := s' ++ refQ4) (by simp [mVar])]
  refine (congrArg (unsetS 2) (nx_of (r0 := [some (.con (.ref f)), some (.tup [.str "refused", .str "stopped"]), some (.con (.ref a)), some (.loc (s'.length + 2))]) (s0 := s' ++ refQ4) ?_)).trans (by simp [unsetS])
  rw [← hI]
  have gI : ∀ {c : V} {b : Bool} {s : Sto}, I c = some b → gIsE I a [.con (.ref a), .con c] s = some (.bl b, s) := fun h => by simp [gIsE, h]
  have z2 : 2 ≤ sizeLine := small24 (by omega)
  have z4 : 4 ≤ sizeLine := small24 (by omega)
  have z6 : 6 ≤ sizeLine := small24 (by omega)
  have m1 : (s' ++ [Ob.lst [D.bl false, D.bl false, D.bl false, D.bl false], Ob.lst [D.bl true, D.bl false]])[s'.length]? = some (.lst [D.bl false, D.bl false, D.bl false, D.bl false]) := by simp
  have m2 : (s' ++ [Ob.lst [D.bl false, D.bl false, D.bl false, D.bl false], Ob.lst [D.bl true, D.bl false]])[s'.length + 1]? = some (.lst [D.bl true, D.bl false]) := by simp
  have m3 := gAdd_rows m1 m2 (by simpa using z6)
  have m4 : (s' ++ [Ob.lst [D.bl false, D.bl false, D.bl false, D.bl false], Ob.lst [D.bl true, D.bl false]] ++ [Ob.lst ([D.bl false, D.bl false, D.bl false, D.bl false] ++ [D.bl true, D.bl false])])[s'.length + 2]? = some (.lst flagR4) := by simp [flagR4]
  simp [gI j0, gI j1, gI j2, gI j3, gI j4, gI j5, gI j7, z2, z4, z6]
  have len2 : (s' ++ [Ob.lst [D.bl false, D.bl false, D.bl false, D.bl false], Ob.lst [D.bl true, D.bl false]]).length = s'.length + 2 := by simp
  rw [m3, len2]
  simp only [RW_of_some]
  have len3 : (s' ++ [Ob.lst [D.bl false, D.bl false, D.bl false, D.bl false], Ob.lst [D.bl true, D.bl false]] ++ [Ob.lst ([D.bl false, D.bl false, D.bl false, D.bl false] ++ [D.bl true, D.bl false])]).length = s'.length + 3 := by simp
  generalize hs3 : (s' ++ [Ob.lst [D.bl false, D.bl false, D.bl false, D.bl false], Ob.lst [D.bl true, D.bl false]] ++ [Ob.lst ([D.bl false, D.bl false, D.bl false, D.bl false] ++ [D.bl true, D.bl false])]) = s3 at *
  refine ⟨by simp [itL, m4], ?_⟩
  rw [gCount_flagR4 m4]
  simp only [RW_of_some, gEq_int]
  refine ⟨rfl, by simp [itL, get_push m4], ?_⟩
  rw [gIndex_flagR4 (get_push m4)]
  simp only [RW_of_some]
  rw [gIx_lst last_of]
  refine ⟨⟨by first | rfl | trivial, by first | rfl | trivial⟩, ?_⟩
  rw [← hs3]
  simp [refQ4, flagR4, namesQ]
def flagR5 : List D := [.bl false, .bl false, .bl false, .bl false, .bl false, .bl true]
theorem py_flagR5 {s : Sto} {m : Nat} (h : s[m]? = some (.lst flagR5)) : (D.loc m).py s = some (.list [.bool false, .bool false, .bool false, .bool false, .bool false, .bool true]) := by
  simp [D.py, D.pyW, locPy, h, flagR5, D.pysW]
theorem flag_layR5 : SeqAt.shaped (.list [.bool false, .bool false, .bool false, .bool false, .bool false, .bool true]) = true := by
  simp [SeqAt.shaped, PyData.canLay0, PyData.canLayAll0, PyData.depth, PyData.depthAll]
theorem gCount_flagR5 {s : Sto} {m : Nat} (h : s[m]? = some (.lst flagR5)) : gCount (.loc m) [.bl true] s = some (.int 1, s) := by
  simp only [gCount, py_flagR5 h, show (D.bl true).py s = some (.bool true) from rfl]
  rw [if_pos ⟨flag_layR5, by simp [SeqAt.shaped, PyData.canLay0, PyData.depth], by simp [PyData.plainAll, PyData.plain], by simp [PyData.plain]⟩]
  simp [PyData.eqv]
theorem gIndex_flagR5 {s : Sto} {m : Nat} (h : s[m]? = some (.lst flagR5)) : gIndex (.loc m) [.bl true] s = some (.int 5, s) := by
  simp only [gIndex, py_flagR5 h, show (D.bl true).py s = some (.bool true) from rfl]
  rw [if_pos ⟨flag_layR5, by simp [SeqAt.shaped, PyData.canLay0, PyData.depth]⟩]
  simp [PyData.eqv, List.findIdx?_cons]
def refQ5 : Sto := [.lst [.bl false, .bl false, .bl false, .bl false], .lst [.bl false, .bl true], .lst [.bl false, .bl false, .bl false, .bl false, .bl false, .bl true], .lst namesQ]
theorem asked_ref5 (A : Str → Addr) {f : Addr} {act : Act} {s s' : Sto} (n : NeB A)
    (h : act s = .exc ⟨A "NoNumber", none⟩ s') : l_law_asked_3 A f act [.con (.ref f)] s = .ok (.tup [.str "refused", .str "number"]) (s' ++ refQ5) := by
  have e1 : mAct f 0 act [some (.con (.ref f)), none, none, none] s = .exc ⟨A "NoNumber", none⟩ s' := by
    unfold mAct
    rw [if_pos (by rfl), h]
  have hm : mAsg (mTup (mCons (mC (.str "told")) (mCons (mAct f 0 act) mNil))) (mgName 1) [some (.con (.ref f)), none, none, none] s = .exc ⟨A "NoNumber", none⟩ [some (.con (.ref f)), none, none, none] s' := by
    simp [mAsg, mTup, mCons, mNil, mC, e1]
  obtain ⟨I, hI⟩ : ∃ I, I = isaL [(A "BadDisk", [(V.ref (A "NothingWaits"), false), (V.ref (A "NoThing"), false), (V.ref (A "NoCell"), false), (V.ref (A "BadDisk"), true), (V.ref (A "NoNumber"), false), (V.ref (A "Stopped"), false), (V.ty "ValueError", true)]), (A "NoCell", [(V.ref (A "NothingWaits"), false), (V.ref (A "NoThing"), false), (V.ref (A "NoCell"), true), (V.ref (A "BadDisk"), false), (V.ref (A "NoNumber"), false), (V.ref (A "Stopped"), false), (V.ty "ValueError", true)]), (A "NoThing", [(V.ref (A "NothingWaits"), false), (V.ref (A "NoThing"), true), (V.ref (A "NoCell"), false), (V.ref (A "BadDisk"), false), (V.ref (A "NoNumber"), false), (V.ref (A "Stopped"), false), (V.ty "ValueError", true)]), (A "NothingWaits", [(V.ref (A "NothingWaits"), true), (V.ref (A "NoThing"), false), (V.ref (A "NoCell"), false), (V.ref (A "BadDisk"), false), (V.ref (A "NoNumber"), false), (V.ref (A "Stopped"), false), (V.ty "ValueError", true)]), (A "Stopped", [(V.ref (A "NothingWaits"), false), (V.ref (A "NoThing"), false), (V.ref (A "NoCell"), false), (V.ref (A "BadDisk"), false), (V.ref (A "NoNumber"), false), (V.ref (A "Stopped"), true), (V.ty "ValueError", true)]), (A "NoNumber", [(V.ref (A "NothingWaits"), false), (V.ref (A "NoThing"), false), (V.ref (A "NoCell"), false), (V.ref (A "BadDisk"), false), (V.ref (A "NoNumber"), true), (V.ref (A "Stopped"), false), (V.ty "ValueError", true)])] (A "NoNumber") := ⟨_, rfl⟩
  have i0 : ∀ c, I c = List.lookup c [(V.ref (A "NothingWaits"), false), (V.ref (A "NoThing"), false), (V.ref (A "NoCell"), false), (V.ref (A "BadDisk"), false), (V.ref (A "NoNumber"), true), (V.ref (A "Stopped"), false), (V.ty "ValueError", true)] := fun c => by rw [hI]; simp [isaL, List.lookup, ref_neA n.n50, ref_neA n.n51, ref_neA n.n52, ref_neA n.n53, ref_neA n.n54, ref_neA n.n05, ref_neA n.n15, ref_neA n.n25, ref_neA n.n35, ref_neA n.n45]
  have j0 : I (.ref (A "BadDisk")) = some false := by rw [i0]; simp [List.lookup, ref_neV n.n01, ref_neV n.n02, ref_neV n.n03, ref_neV n.n04, ref_neV n.n05, ref_neV n.n10, ref_neV n.n12, ref_neV n.n13, ref_neV n.n14, ref_neV n.n15, ref_neV n.n20, ref_neV n.n21, ref_neV n.n23, ref_neV n.n24, ref_neV n.n25, ref_neV n.n30, ref_neV n.n31, ref_neV n.n32, ref_neV n.n34, ref_neV n.n35, ref_neV n.n40, ref_neV n.n41, ref_neV n.n42, ref_neV n.n43, ref_neV n.n45, ref_neV n.n50, ref_neV n.n51, ref_neV n.n52, ref_neV n.n53, ref_neV n.n54]
  have j1 : I (.ref (A "NoCell")) = some false := by rw [i0]; simp [List.lookup, ref_neV n.n01, ref_neV n.n02, ref_neV n.n03, ref_neV n.n04, ref_neV n.n05, ref_neV n.n10, ref_neV n.n12, ref_neV n.n13, ref_neV n.n14, ref_neV n.n15, ref_neV n.n20, ref_neV n.n21, ref_neV n.n23, ref_neV n.n24, ref_neV n.n25, ref_neV n.n30, ref_neV n.n31, ref_neV n.n32, ref_neV n.n34, ref_neV n.n35, ref_neV n.n40, ref_neV n.n41, ref_neV n.n42, ref_neV n.n43, ref_neV n.n45, ref_neV n.n50, ref_neV n.n51, ref_neV n.n52, ref_neV n.n53, ref_neV n.n54]
  have j2 : I (.ref (A "NoThing")) = some false := by rw [i0]; simp [List.lookup, ref_neV n.n01, ref_neV n.n02, ref_neV n.n03, ref_neV n.n04, ref_neV n.n05, ref_neV n.n10, ref_neV n.n12, ref_neV n.n13, ref_neV n.n14, ref_neV n.n15, ref_neV n.n20, ref_neV n.n21, ref_neV n.n23, ref_neV n.n24, ref_neV n.n25, ref_neV n.n30, ref_neV n.n31, ref_neV n.n32, ref_neV n.n34, ref_neV n.n35, ref_neV n.n40, ref_neV n.n41, ref_neV n.n42, ref_neV n.n43, ref_neV n.n45, ref_neV n.n50, ref_neV n.n51, ref_neV n.n52, ref_neV n.n53, ref_neV n.n54]
  have j3 : I (.ref (A "NothingWaits")) = some false := by rw [i0]; simp [List.lookup, ref_neV n.n01, ref_neV n.n02, ref_neV n.n03, ref_neV n.n04, ref_neV n.n05, ref_neV n.n10, ref_neV n.n12, ref_neV n.n13, ref_neV n.n14, ref_neV n.n15, ref_neV n.n20, ref_neV n.n21, ref_neV n.n23, ref_neV n.n24, ref_neV n.n25, ref_neV n.n30, ref_neV n.n31, ref_neV n.n32, ref_neV n.n34, ref_neV n.n35, ref_neV n.n40, ref_neV n.n41, ref_neV n.n42, ref_neV n.n43, ref_neV n.n45, ref_neV n.n50, ref_neV n.n51, ref_neV n.n52, ref_neV n.n53, ref_neV n.n54]
  have j4 : I (.ref (A "Stopped")) = some false := by rw [i0]; simp [List.lookup, ref_neV n.n01, ref_neV n.n02, ref_neV n.n03, ref_neV n.n04, ref_neV n.n05, ref_neV n.n10, ref_neV n.n12, ref_neV n.n13, ref_neV n.n14, ref_neV n.n15, ref_neV n.n20, ref_neV n.n21, ref_neV n.n23, ref_neV n.n24, ref_neV n.n25, ref_neV n.n30, ref_neV n.n31, ref_neV n.n32, ref_neV n.n34, ref_neV n.n35, ref_neV n.n40, ref_neV n.n41, ref_neV n.n42, ref_neV n.n43, ref_neV n.n45, ref_neV n.n50, ref_neV n.n51, ref_neV n.n52, ref_neV n.n53, ref_neV n.n54]
  have j5 : I (.ref (A "NoNumber")) = some true := by rw [i0]; simp [List.lookup, ref_neV n.n01, ref_neV n.n02, ref_neV n.n03, ref_neV n.n04, ref_neV n.n05, ref_neV n.n10, ref_neV n.n12, ref_neV n.n13, ref_neV n.n14, ref_neV n.n15, ref_neV n.n20, ref_neV n.n21, ref_neV n.n23, ref_neV n.n24, ref_neV n.n25, ref_neV n.n30, ref_neV n.n31, ref_neV n.n32, ref_neV n.n34, ref_neV n.n35, ref_neV n.n40, ref_neV n.n41, ref_neV n.n42, ref_neV n.n43, ref_neV n.n45, ref_neV n.n50, ref_neV n.n51, ref_neV n.n52, ref_neV n.n53, ref_neV n.n54]
  have j7 : I (.ty "ValueError") = some true := by
    rw [i0]
    simp [List.lookup, ty_neV]
  unfold l_law_asked_3 mDef
  rw [if_pos (show [D.con (.ref f)].length = 1 from rfl)]
  show (match mSeq _ _ [some (.con (.ref f)), none, none, none] s with
      | .nx _ s1 => R.ok D.non s1
      | .rt d s1 => R.ok d s1
      | .exc e _ s1 => R.exc e s1
      | _ => R.bad) = _
  rw [seq_nx (mTry_exc (x := .nx [some (.con (.ref f)), some (.tup [.str "refused", .str "number"]), none, some (.loc (s'.length + 2))] (s' ++ refQ5)) hm (by simp [List.lookup, ref_neA n.n50, ref_neA n.n51, ref_neA n.n52, ref_neA n.n53, ref_neA n.n54, ref_neA n.n05, ref_neA n.n15, ref_neA n.n25, ref_neA n.n35, ref_neA n.n45]) fun a => ?_), ret_of (d := .tup [.str "refused", .str "number"]) (s1 := s' ++ refQ5) (by simp [mVar])]
  refine (congrArg (unsetS 2) (nx_of (r0 := [some (.con (.ref f)), some (.tup [.str "refused", .str "number"]), some (.con (.ref a)), some (.loc (s'.length + 2))]) (s0 := s' ++ refQ5) ?_)).trans (by simp [unsetS])
  rw [← hI]
  have gI : ∀ {c : V} {b : Bool} {s : Sto}, I c = some b → gIsE I a [.con (.ref a), .con c] s = some (.bl b, s) := fun h => by simp [gIsE, h]
  have z2 : 2 ≤ sizeLine := small24 (by omega)
  have z4 : 4 ≤ sizeLine := small24 (by omega)
  have z6 : 6 ≤ sizeLine := small24 (by omega)
  have m1 : (s' ++ [Ob.lst [D.bl false, D.bl false, D.bl false, D.bl false], Ob.lst [D.bl false, D.bl true]])[s'.length]? = some (.lst [D.bl false, D.bl false, D.bl false, D.bl false]) := by simp
  have m2 : (s' ++ [Ob.lst [D.bl false, D.bl false, D.bl false, D.bl false], Ob.lst [D.bl false, D.bl true]])[s'.length + 1]? = some (.lst [D.bl false, D.bl true]) := by simp
  have m3 := gAdd_rows m1 m2 (by simpa using z6)
  have m4 : (s' ++ [Ob.lst [D.bl false, D.bl false, D.bl false, D.bl false], Ob.lst [D.bl false, D.bl true]] ++ [Ob.lst ([D.bl false, D.bl false, D.bl false, D.bl false] ++ [D.bl false, D.bl true])])[s'.length + 2]? = some (.lst flagR5) := by simp [flagR5]
  simp [gI j0, gI j1, gI j2, gI j3, gI j4, gI j5, gI j7, z2, z4, z6]
  have len2 : (s' ++ [Ob.lst [D.bl false, D.bl false, D.bl false, D.bl false], Ob.lst [D.bl false, D.bl true]]).length = s'.length + 2 := by simp
  rw [m3, len2]
  simp only [RW_of_some]
  have len3 : (s' ++ [Ob.lst [D.bl false, D.bl false, D.bl false, D.bl false], Ob.lst [D.bl false, D.bl true]] ++ [Ob.lst ([D.bl false, D.bl false, D.bl false, D.bl false] ++ [D.bl false, D.bl true])]).length = s'.length + 3 := by simp
  generalize hs3 : (s' ++ [Ob.lst [D.bl false, D.bl false, D.bl false, D.bl false], Ob.lst [D.bl false, D.bl true]] ++ [Ob.lst ([D.bl false, D.bl false, D.bl false, D.bl false] ++ [D.bl false, D.bl true])]) = s3 at *
  refine ⟨by simp [itL, m4], ?_⟩
  rw [gCount_flagR5 m4]
  simp only [RW_of_some, gEq_int]
  refine ⟨rfl, by simp [itL, get_push m4], ?_⟩
  rw [gIndex_flagR5 (get_push m4)]
  simp only [RW_of_some]
  rw [gIx_lst last_of]
  refine ⟨⟨by first | rfl | trivial, by first | rfl | trivial⟩, ?_⟩
  rw [← hs3]
  simp [refQ5, flagR5, namesQ]
end DL
end
/-! ### H6 -/
section
set_option linter.all false
set_option maxRecDepth 100000
set_option maxHeartbeats 4000000
/-! H6: the disk's calls, let or refused. -/
namespace DL
open PySem PySem.Spec L2
open PyProof.Rows hiding St
set_option synthInstance.maxSize 100000
set_option synthInstance.maxHeartbeats 4000000
instance ui_check (A : Str → Addr) : UF (l_Disk_check_cell A) (l_Disk_check_cell_2 A) := ⟨by unfold l_Disk_check_cell l_Disk_check_cell_2; exact UF.h⟩
theorem up_check (A : Str → Addr) : UpF (l_Disk_check_cell A) (l_Disk_check_cell_2 A) := UF.h
instance ui_write (A : Str → Addr) : UF (l_Disk_write A) (l_Disk_write_2 A) := ⟨by unfold l_Disk_write l_Disk_write_2; exact UF.h⟩
theorem up_write (A : Str → Addr) : UpF (l_Disk_write A) (l_Disk_write_2 A) := UF.h
instance ui_reach (A : Str → Addr) : UF (l_Disk_reach_2 A) (l_Disk_reach_3 A) := ⟨by unfold l_Disk_reach_2 l_Disk_reach_3; exact UF.h⟩
theorem up_reach (A : Str → Addr) : UpF (l_Disk_reach_2 A) (l_Disk_reach_3 A) := UF.h
instance ui_power (A : Str → Addr) : UF (l_Disk_power A) (l_Disk_power_2 A) := ⟨by unfold l_Disk_power l_Disk_power_2; exact UF.h⟩
theorem up_power (A : Str → Addr) : UpF (l_Disk_power A) (l_Disk_power_2 A) := UF.h
instance ui_init (A : Str → Addr) : UF (l_Disk_init A) (l_Disk_init_2 A) := ⟨by unfold l_Disk_init l_Disk_init_2; exact UF.h⟩
theorem up_init (A : Str → Addr) : UpF (l_Disk_init A) (l_Disk_init_2 A) := UF.h
instance ui_read (A : Str → Addr) : UF (l_Disk_read A) (l_Disk_read_2 A) := ⟨by unfold l_Disk_read l_Disk_read_2; exact UF.h⟩
instance ui_lying (A : Str → Addr) : UF (l_Disk_lying A) (l_Disk_lying_2 A) := ⟨by unfold l_Disk_lying l_Disk_lying_2; exact UF.h⟩
instance ui_disk_is (A : Str → Addr) : UF (l_law_disk_is A) (l_law_disk_is_2 A) := ⟨by unfold l_law_disk_is l_law_disk_is_2; exact UF.h⟩
theorem up_disk_is (A : Str → Addr) : UpF (l_law_disk_is A) (l_law_disk_is_2 A) := UF.h
theorem RW.up {α : Type} {x y : R α} {Q : α → Sto → Prop} (h : RW x Q) (u : UpR x y) : RW y Q := by
  obtain ⟨a, s, e, q⟩ := h.get
  exact RW.of (u.ok e) q
/-- a value of a known type: no class, no instance -/
def OdV (s : Sto) (v : D) : Prop := (∀ m, v = .loc m → m ≠ 2 ∧ ((∃ xs, s[m]? = some (.lst xs)) ∨ ∃ kvs, s[m]? = some (.dct kvs))) ∧ ∀ c, v ≠ .con c
theorem OdV.ty {s : Sto} {v : D} (h : OdV s v) : ∃ t, tyD s v = some t := by
  cases v with
  | con c => exact absurd rfl (h.2 c)
  | loc m =>
    rcases h.1 m rfl with ⟨_, ⟨xs, e⟩ | ⟨xs, e⟩⟩
    · exact ⟨"list", by simp [tyD, e]⟩
    · exact ⟨"dict", by simp [tyD, e]⟩
  | _ => exact ⟨_, rfl⟩
theorem OdV.ext {s s' : Sto} {v : D} (h : OdV s v) (e : Ext s s') : OdV s' v := by
  refine ⟨fun m hm => ?_, h.2⟩
  rcases h.1 m hm with ⟨h2, ⟨xs, hx⟩ | ⟨xs, hx⟩⟩
  · exact ⟨h2, .inl ⟨xs, by rw [e.2 m h2 (len_of hx)]; exact hx⟩⟩
  · exact ⟨h2, .inr ⟨xs, by rw [e.2 m h2 (len_of hx)]; exact hx⟩⟩
theorem OdV.tup {s : Sto} {xs : List D} : OdV s (.tup xs) := ⟨fun _ h => (by cases h), fun _ h => (by cases h)⟩
theorem OdV.int {s : Sto} {i : Int} : OdV s (.int i) := ⟨fun _ h => (by cases h), fun _ h => (by cases h)⟩
theorem OdV.bl {s : Sto} {i : Bool} : OdV s (.bl i) := ⟨fun _ h => (by cases h), fun _ h => (by cases h)⟩
theorem OdV.str {s : Sto} {i : Str} : OdV s (.str i) := ⟨fun _ h => (by cases h), fun _ h => (by cases h)⟩
theorem OdV.non {s : Sto} : OdV s .non := ⟨fun _ h => (by cases h), fun _ h => (by cases h)⟩
theorem OdV.lst {s : Sto} {m : Nat} {xs : List D} (h : s[m]? = some (.lst xs)) (h2 : m ≠ 2) : OdV s (.loc m) := ⟨fun k e => by cases e; exact ⟨h2, .inl ⟨xs, h⟩⟩, fun _ h => (by cases h)⟩
theorem OdV.dct {s : Sto} {m : Nat} {kvs : List (Key × D)} (h : s[m]? = some (.dct kvs)) (h2 : m ≠ 2) : OdV s (.loc m) := ⟨fun k e => by cases e; exact ⟨h2, .inr ⟨kvs, h⟩⟩, fun _ h => (by cases h)⟩
theorem check_no (A : Str → Addr) {s : Sto} {d n : Nat} {S : Dst} {F : List Nat} {v : D} {t : String} (h : Dk A s d S F) (o : S.Ok n) (hv : tyD s v = some t) (hr : inR 0 ((n : Int) - 1) v = false) : l_Disk_check_cell_2 A [.loc d, v] s = .exc ⟨A "NoCell", none⟩ s := by
  obtain ⟨l, w, q, rfl, h⟩ := h
  have e : mNot (asT (mCall (l_is_within A) (mCons (mVar 1) (mCons (mC (.int 0)) (mCons (mBin gSub (mCallB gLen (mCons (mFld [A "Disk"] "kept_lying" (mVar 0)) mNil)) (mC (.int 1))) mNil))))) [some (.loc d), some v] s = .ok true s := by
    apply RW.eq
    simp
    refine ⟨_, _, h.ob, rfl, _, lk_ly, ?_⟩
    simp [gLen_lst h.ly, o.ly, within_spec A hv, hr, truB]
  unfold l_Disk_check_cell_2 mDef
  rw [if_pos (show [D.loc d, v].length = 2 from rfl)]
  show (match mIf _ _ _ [some (.loc d), some v] s with
    | .nx _ s1 => R.ok D.non s1
    | .rt d s1 => R.ok d s1
    | .exc e _ s1 => R.exc e s1
    | _ => R.bad) = _
  simp only [mIf, e, mRaise]
section
variable {A : Str → Addr} {s : Sto} {d n : Nat} {S : Dst} {F : List Nat} {v x : D} {t : String}
/-- a call whose first step refuses -/
theorem def_exc {nN : Nat} {m1 m2 : MS} {ds : List D} {e : Exn} {r' : Env} {s1 : Sto} (h : m1 (ds.map some ++ List.replicate (nN - ds.length) none) s = .exc e r' s1) : mDef nN ds.length (mSeq m1 m2) ds s = .exc e s1 := by
  unfold mDef
  rw [if_pos rfl]
  simp only [mSeq, h]
theorem drop_exc {m : ME} {r : Env} {e : Exn} {s1 : Sto} (h : m r s = .exc e s1) : mDrop m r s = .exc e r s1 := by unfold mDrop; rw [h]
theorem read_no (h : Dk A s d S F) (o : S.Ok n) (hv : tyD s v = some t) (hr : inR 0 ((n : Int) - 1) v = false) : l_Disk_read_2 A [.loc d, v] s = .exc ⟨A "NoCell", none⟩ s :=
  def_exc (ds := [.loc d, v]) (nN := 2) (drop_exc (by rw [dk_meth (x := "check_cell") (f := l_Disk_check_cell_2 A) (ma := mCons (mVar 1) mNil) (i := 0) (ds := [v]) h (by decide) rfl rfl, check_no A h o hv hr]))
theorem lying_no (h : Dk A s d S F) (o : S.Ok n) (hv : tyD s v = some t) (hr : inR 0 ((n : Int) - 1) v = false) : l_Disk_lying_2 A [.loc d, v] s = .exc ⟨A "NoCell", none⟩ s :=
  def_exc (ds := [.loc d, v]) (nN := 2) (drop_exc (by rw [dk_meth (x := "check_cell") (f := l_Disk_check_cell_2 A) (ma := mCons (mVar 1) mNil) (i := 0) (ds := [v]) h (by decide) rfl rfl, check_no A h o hv hr]))
theorem reach_no (h : Dk A s d S F) (o : S.Ok n) (hv : tyD s v = some t) (hr : inR 0 ((n : Int) - 1) v = false) : l_Disk_reach_3 A [.loc d, v] s = .exc ⟨A "NoCell", none⟩ s :=
  def_exc (ds := [.loc d, v]) (nN := 2) (drop_exc (by rw [dk_meth (x := "check_cell") (f := l_Disk_check_cell_2 A) (ma := mCons (mVar 1) mNil) (i := 0) (ds := [v]) h (by decide) rfl rfl, check_no A h o hv hr]))
theorem write_no (h : Dk A s d S F) (o : S.Ok n) (hv : tyD s v = some t) (hr : inR 0 ((n : Int) - 1) v = false) : l_Disk_write_2 A [.loc d, v, x] s = .exc ⟨A "NoCell", none⟩ s :=
  def_exc (ds := [.loc d, v, x]) (nN := 3) (drop_exc (by rw [dk_meth (x := "check_cell") (f := l_Disk_check_cell_2 A) (ma := mCons (mVar 1) mNil) (i := 0) (ds := [v]) h (by decide) rfl rfl, check_no A h o hv hr]))
theorem write_bad {c : Nat} (h : Dk A s d S F) (o : S.Ok n) (hc : c < n) (ht : l_is_thing A [x] s = .ok (.bl false) s) : l_Disk_write_2 A [.loc d, .int (c : Int), x] s = .exc ⟨A "NoThing", none⟩ s := by
  have e0 : mMeth (A "Disk") "check_cell" (l_Disk_check_cell_2 A) (mVar 0) (mCons (mVar 1) mNil) [some (.loc d), some (.int (c : Int)), some x] s = .ok .non s := by
    rw [dk_meth (x := "check_cell") (f := l_Disk_check_cell_2 A) (ma := mCons (mVar 1) mNil) (i := 0) (ds := [.int (c : Int)]) h (by decide) rfl rfl]
    exact (up_check A).ok (check_cell_ok A h o hc)
  have e1 : mNot (asT (mCall (l_is_thing A) (mCons (mVar 2) mNil))) [some (.loc d), some (.int (c : Int)), some x] s = .ok true s := by
    apply RW.eq
    simp [ht, truB]
  unfold l_Disk_write_2 mDef
  rw [if_pos (show [D.loc d, .int (c : Int), x].length = 3 from rfl)]
  show (match mSeq _ _ [some (.loc d), some (.int (c : Int)), some x] s with
    | .nx _ s1 => R.ok D.non s1
    | .rt d s1 => R.ok d s1
    | .exc e _ s1 => R.exc e s1
    | _ => R.bad) = _
  simp only [mSeq, mDrop, e0, mIf, e1, mRaise]
theorem power_no (hv : tyD s v = some t) (hn : v ≠ .non) (hr : inR 0 1000000 v = false) : l_Disk_power_2 A [.loc d, v] s = .exc ⟨A "NoNumber", none⟩ s := by
  have e1 : mAnd (asB (mBin gIsNot (mVar 1) (mC .non))) (mNot (asT (mCall (l_is_within A) (mCons (mVar 1) (mCons (mC (.int 0)) (mCons (mC (.int 1000000)) mNil)))))) [some (.loc d), some v] s = .ok true s := by
    apply RW.eq
    have g : gIsNot v .non s = some (.bl true, s) := by
      cases v <;> first | rfl | exact absurd rfl hn | (cases hv)
    simp [g, within_spec A hv, hr, truB]
  unfold l_Disk_power_2 mDef
  rw [if_pos (show [D.loc d, v].length = 2 from rfl)]
  show (match mSeq _ _ [some (.loc d), some v] s with
    | .nx _ s1 => R.ok D.non s1
    | .rt d s1 => R.ok d s1
    | .exc e _ s1 => R.exc e s1
    | _ => R.bad) = _
  simp only [mSeq, mIf, e1, mRaise]
theorem init_no (hv : tyD s v = some t) (hr : inR 1 2000 v = false) : l_Disk_init_2 A [x, v] s = .exc ⟨A "BadDisk", none⟩ s := by
  have e1 : mNot (asT (mCall (l_is_within A) (mCons (mVar 1) (mCons (mC (.int 1)) (mCons (mC (.int 2000)) mNil))))) [some x, some v, none] s = .ok true s := by
    apply RW.eq
    simp [within_spec A hv, hr, truB]
  unfold l_Disk_init_2 mDef
  rw [if_pos (show [x, v].length = 2 from rfl)]
  show (match mSeq _ _ [some x, some v, none] s with
    | .nx _ s1 => R.ok D.non s1
    | .rt d s1 => R.ok d s1
    | .exc e _ s1 => R.exc e s1
    | _ => R.bad) = _
  simp only [mSeq, mIf, e1, mRaise]
theorem is_value_spec {n : Int} (hv : tyD s v = some t) : l_law_is_value A [v, .int n] s = .ok (.bl (inR 0 (n - 1) v)) s := by
  cases v with
  | int x =>
    apply RW.eq
    unfold l_law_is_value
    simp
    by_cases h1 : 0 ≤ x
    · simp [h1, inR]
      omega
    · simp [h1, inR]
      omega
  | non => apply RW.eq; unfold l_law_is_value; simp [inR]
  | bl b => apply RW.eq; unfold l_law_is_value; simp [inR]
  | str x => apply RW.eq; unfold l_law_is_value; simp [inR]
  | tup xs => apply RW.eq; unfold l_law_is_value; simp [inR]
  | con v => cases hv
  | loc n =>
    apply RW.eq
    unfold l_law_is_value
    simp only [tyD] at hv
    split at hv
    · rename_i xs e
      simp [gIsi, tyD, e, inR]
    · rename_i xs e
      simp [gIsi, tyD, e, inR]
    · cases hv
end
/-! ### what is no thing for a cell -/
theorem notin_len {i : Int} {s : Sto} (h : i ≠ 0 ∧ i ≠ 3) : gNotIn (.int i) (.tup [.int 0, .int 3]) s = some (.bl true, s) := by
  simp [gNotIn, inB, itS, itL, flatD, eqF]
  omega
theorem thing_no (A : Str → Addr) {s : Sto} {v : D} {t : String} (hv : tyD s v = some t) (h : ∀ xs, v ≠ .tup xs) : l_is_thing A [v] s = .ok (.bl false) s := by
  apply RW.eq
  unfold l_is_thing
  cases v with
  | tup xs => exact absurd rfl (h xs)
  | con v => cases hv
  | loc n =>
    simp only [tyD] at hv
    split at hv
    · rename_i xs e
      simp [gIsi, tyD, e]
    · rename_i xs e
      simp [gIsi, tyD, e]
    · cases hv
  | _ => simp
theorem thing_tup (A : Str → Addr) {s : Sto} {xs : List D} (hl : xs.length ≠ 0 ∧ xs.length ≠ 3) : l_is_thing A [.tup xs] s = .ok (.bl false) s := by
  apply RW.eq
  unfold l_is_thing
  simp
  refine ⟨small24 (by omega), ?_⟩
  rw [notin_len (by omega)]
  simp
theorem thing_tri (A : Str → Addr) {s : Sto} {a b c : D} (h : OdV s a ∧ OdV s b ∧ OdV s c) (hb : ¬ (inR 0 1000000 a = true ∧ inR 0 1000000 b = true ∧ inR 0 1000000 c = true)) : l_is_thing A [.tup [a, b, c]] s = .ok (.bl false) s := by
  apply RW.eq
  unfold l_is_thing
  simp
  refine ⟨small24 (by omega), ?_⟩
  rw [notin_03 (.inr rfl)]
  simp
  refine lc_rw (f := fun e => .bl (inR 0 1000000 e)) (b := fun _ => true) rfl (small24 (by simp)) ?_ ?_
  · intro e he
    obtain ⟨t, ht⟩ : ∃ t, tyD s e = some t := by
      simp at he
      rcases he with rfl | rfl | rfl
      · exact h.1.ty
      · exact h.2.1.ty
      · exact h.2.2.ty
    simp [wipeD, within_spec A ht]
  · rw [List.filter_eq_self.mpr fun _ _ => rfl]
    have e1 : [a, b, c].map (fun e => D.bl (inR 0 1000000 e)) = ([a, b, c].map (inR 0 1000000)).map .bl := by rw [List.map_map]; rfl
    rw [e1, all_bls]
    have e2 : ([a, b, c].map (inR 0 1000000)).all id = false := by
      simp only [List.map_cons, List.map_nil, List.all_cons, List.all_nil, id, Bool.and_true]
      cases h1 : inR 0 1000000 a <;> cases h2 : inR 0 1000000 b <;> cases h3 : inR 0 1000000 c <;> simp_all
    rw [e2]
    exact ⟨rfl, rfl⟩
/-- a thing some 24 deep: a tuple of one -/
theorem nested_spec (A : Str → Addr) {s : Sto} (h : HS s) : RW (l_law_nested A [.loc 2] s) fun v s' => (∃ y, v = .tup [y]) ∧ HS s' ∧ Ext s s' := by
  unfold l_law_nested
  obtain ⟨N, hN⟩ : ∃ N : Int, N = 24 := ⟨_, rfl⟩
  rw [← hN]
  rw [RW_def]
  refine ⟨rfl, ?_⟩
  have h3 := h.len
  rw [SW_seq]
  refine SW.midr (fun r s1 => (∃ x, r = [some (.loc 2), some x, none]) ∧ HS s1 ∧ Ext s s1) ?_ ?_
  · rw [SW_asg, RW_call, RW_cons, RW_var]
    refine ⟨_, rfl, ?_⟩
    simp
    refine ⟨small24 (by omega), ?_⟩
    refine (any_spec A (xs := [.tup [], .int 0, .str "a", .non]) h.push (.inr ⟨s.length, by omega, rfl, last_of⟩) (by simp) (by simp)).imp fun v s1 ⟨_, h1, f1⟩ => ?_
    exact ⟨h1, (Ext.refl.push).trans f1.ext⟩
  rintro r s1 ⟨⟨x, rfl⟩, h1, x1⟩
  rw [SW_seq]
  refine SW.midr (fun r s2 => (∃ y v2, r = [some (.loc 2), some (.tup [y]), v2]) ∧ HS s2 ∧ Ext s s2) ?_ ?_
  · rw [SW_for, RW_rg1, RW_C]
    refine ⟨N, rfl, by omega, by omega, ?_⟩
    refine SW_forGo (fun i r s2 => (∃ x v2, r = [some (.loc 2), some x, v2] ∧ (i = N.toNat → ∃ y, x = .tup [y])) ∧ HS s2 ∧ Ext s s2) ⟨⟨x, none, rfl, by omega⟩, h1, x1⟩ (by intros; rfl) ?_ ?_
    · rintro i dd r s2 hdd ⟨⟨x, v2, rfl, _⟩, h2, x2⟩
      have hi := (List.getElem?_eq_some_iff.mp hdd).1
      simp at hi
      obtain rfl : dd = .int (i : Int) := by
        simp [hi] at hdd
        exact hdd.symm
      rw [RW_gName, SW_asg, RW_ifE, RW_asB, RW_bin, RW_bin, RW_callB, RW_cons, RW_var]
      refine ⟨_, rfl, ?_⟩
      have g : gInt [.int (i : Int)] s2 = some (.int (i : Int), s2) := by simp [gInt]
      rw [RW_nil, g, RW_of_some, RW_C]
      have g2 : gMod (.int (i : Int)) (.int 5) s2 = some (.int ((i : Int) % 5), s2) := by simp [gMod, Int.fmod_eq_emod_of_nonneg]
      rw [g2, RW_of_some, RW_C, gEq_int, RW_of_some]
      refine ⟨_, rfl, ?_⟩
      by_cases hd : decide ((i : Int) % 5 = 4) = true
      · rw [if_pos hd, RW_new, RW_lst, RW_cons, RW_var]
        refine ⟨_, rfl, ?_⟩
        rw [RW_nil]
        refine ⟨small24 (by simp), ?_⟩
        rw [RW_gName]
        refine ⟨⟨_, _, rfl, fun e => ?_⟩, h2.push, x2.push⟩
        have := of_decide_eq_true hd
        omega
      · rw [if_neg hd, RW_tup, RW_cons, RW_var]
        refine ⟨_, rfl, ?_⟩
        rw [RW_nil]
        refine ⟨small24 (by simp), ?_⟩
        rw [RW_gName]
        exact ⟨⟨_, _, rfl, fun _ => ⟨_, rfl⟩⟩, h2, x2⟩
    · rintro r s2 ⟨⟨x, v2, rfl, hx⟩, h2, x2⟩
      obtain ⟨y, rfl⟩ := hx (by simp)
      exact ⟨⟨y, v2, rfl⟩, h2, x2⟩
  rintro r s2 ⟨⟨y, v2, rfl⟩, h2, x2⟩
  rw [SW_ret, RW_var]
  exact ⟨_, rfl, ⟨y, rfl⟩, h2, x2⟩
end DL
end
/-! ### H7 -/
section
set_option linter.all false
set_option maxRecDepth 100000
set_option maxHeartbeats 4000000
/-! H7: a deed (H2's, where all errors are reached). -/
namespace DL
open PySem PySem.Spec L2
open PyProof.Rows hiding St
theorem ldeed2_spec {A : Str → Addr} (hA : NeB A) {n b m : Nat} {s0 s : Sto} {d a : Nat} {S : Dst} {F G : List Nat} (h3 : 3 ≤ b) (u : Pair A n b m s0 s d a S F G) (hn : n < 64) (hm : m < 999) :
    RW (l_law_deed_2 A [.loc 2, .loc d, .loc a] s) fun v s' => Good A n b (m + 1) s0 d a v s' := by
  have hn0 := u.two.ok.n0
  have z2 : 2 ≤ sizeLine := small24 (by omega)
  unfold l_law_deed_2
  rw [RW_def]
  refine ⟨rfl, ?_⟩
  rw [SW_seq]
  refine SW.midr (fun r s1 => ∃ kd : Int, r = env9 d a (some (.int (n : Int))) (some (.int kd)) none none none none ∧ Pair A n b m s0 s1 d a S F G) ?_ ?_
  · rw [SW_par, RW_cons, RW_callB, RW_cons, RW_bin, RW_var]
    refine ⟨_, rfl, ?_⟩
    obtain ⟨l, w, p, hG, gg⟩ := id u.two.ac
    obtain ⟨e1, e2, e3, e4⟩ := gIx_ac gg.ob
    rw [RW_C, e1, RW_of_some, RW_nil, gLen_lst gg.ly, u.two.ok.ly, RW_of_some, RW_cons, RW_call, RW_cons, RW_var]
    refine ⟨_, rfl, ?_⟩
    rw [RW_cons, RW_C, RW_nil]
    refine (draw_spec A (many := 12) (by omega) u.bas.hs).imp fun v1 s1 ⟨z, e, z0, z1, h1, f1⟩ => ?_
    subst e
    rw [RW_nil]
    exact ⟨_, _, rfl, z, rfl, u.two.ext f1.ext h3, u.bas.ext f1.ext h1, u.few⟩
  rintro r s1 ⟨kd, rfl, u1⟩
  rw [SW_seq]
  refine SW.midr (fun r s2 => ∃ c : Nat, c < n ∧ r = env9 d a (some (.int (n : Int))) (some (.int kd)) (some (.int (c : Int))) none none none ∧ Pair A n b m s0 s2 d a S F G) ?_ ?_
  · rw [SW_asg, RW_call, RW_cons, RW_var]
    refine ⟨_, rfl, ?_⟩
    rw [RW_cons, RW_var]
    refine ⟨_, rfl, ?_⟩
    rw [RW_nil]
    refine (draw_spec A (many := (n : Int)) (by omega) u1.bas.hs).imp fun v1 s2 ⟨z, e, z0, z1, h2, f2⟩ => ?_
    subst e
    obtain ⟨c, rfl⟩ := Int.eq_ofNat_of_zero_le z0
    rw [RW_gName]
    exact ⟨c, by omega, rfl, u1.two.ext f2.ext h3, u1.bas.ext f2.ext h2, u1.few⟩
  rintro r s2 ⟨c, hc, rfl, u2⟩
  rw [SW_seq, SW_if, RW_asB, RW_bin, RW_var]
  refine ⟨_, rfl, ?_⟩
  rw [RW_C, gLt_int, RW_of_some]
  refine ⟨_, rfl, ?_⟩
  by_cases hk : decide (kd < 5) = true
  · rw [if_pos hk, SW_seq, SW_asg, RW_call, RW_cons, RW_var]
    refine ⟨_, rfl, ?_⟩
    rw [RW_nil]
    refine (lthing_spec A u2.bas.hs).imp fun t s3 ⟨ht, x3, h3'⟩ => ?_
    have t3 := u2.two.ext x3 h3
    have b3 := u2.bas.ext x3 h3'
    have hfc := u2.few c
    have hw' : ∀ c', ((S.put c t).w c').length ≤ m + 1 := fun c' => by
      rw [put_w (by rw [t3.ok.wt]; exact hc)]
      have := u2.few c'
      split <;> omega
    rw [RW_gName, SW_seq, SW_drop]
    refine (lput_spec A (i := 2) (j := 5) (k := 6) t3.ac t3.ok hc (by omega) rfl rfl rfl).imp fun v s4 ⟨a4, k4⟩ => ?_
    have d4 := t3.dk.keep k4 t3.dj
    have b4 := b3.kp k4 t3.gb h3
    obtain ⟨v, s5, e5, rfl, F5, g5, k5, f5⟩ := (write_spec A d4 t3.ok hc ht (show (S.w c).length < 1000 by omega)).get
    have a5 := a4.keep k5 (sym_dj t3.dj)
    have b5 := b4.kp k5 t3.fb h3
    have dj5 := sep_new f5 t3.dj a4.lt
    rw [SW_ret, RW_bin]
    refine RW_lam (v := toldP) (s1 := s5) (fun f => asked_told3 A (by
      rw [dk_meth (x := "write") (f := l_Disk_write_2 A) (ma := mCons (mVar 5) (mCons (mVar 6) mNil)) (i := 1) (ds := [.int (c : Int), t]) d4 (by decide) rfl rfl, (up_write A).ok e5])) ?_
    rw [RW_tup, RW_cons, RW_C, RW_cons, RW_C, RW_nil]
    refine ⟨z2, ?_⟩
    rw [gEq_told, RW_of_some]
    exact ⟨rfl, _, F5, G, ⟨⟨g5, a5, t3.ok.put ht (show (S.w c).length < 1000 by omega), dj5, fun x hx => (f5 x hx).elim (t3.fb x) fun q => by have := b4.le; omega, t3.gb⟩, b5, hw'⟩⟩
  rw [if_neg hk, SW_next, SW_seq, SW_if, RW_asB, RW_bin, RW_var]
  refine ⟨_, rfl, ?_⟩
  rw [RW_C, gLt_int, RW_of_some]
  refine ⟨_, rfl, ?_⟩
  by_cases hk2 : decide (kd < 8) = true
  · rw [if_pos hk2, SW_seq, SW_if, RW_asB, RW_bin, RW_bin, RW_bin, RW_var]
    refine ⟨_, rfl, ?_⟩
    obtain ⟨l, w, p, hG, gg⟩ := id u2.two.ac
    obtain ⟨e1, e2, e3, e4⟩ := gIx_ac gg.ob
    have hcw : c < S.wt.length := by rw [u2.two.ok.wt]; exact hc
    obtain ⟨x, hx⟩ : ∃ x, p[c]? = some x := ⟨_, List.getElem?_eq_getElem (by rw [gg.len]; exact hcw)⟩
    obtain ⟨z, hz, hsx⟩ := gg.ps c x hx
    have hzT := u2.two.ok.tw z (List.mem_of_getElem? hz)
    have hpc : atI (p.map D.loc) (c : Int) = some (.loc x) := atI_in (by omega) (by rw [Int.toNat_natCast, List.getElem?_map, hx]; rfl)
    have hzw : S.wt.getD c [] = z := getD_of hz
    rw [RW_C, e2, RW_of_some, RW_var]
    refine ⟨_, rfl, ?_⟩
    rw [gIx_lst gg.wt, hpc]
    simp only [Option.map_some, RW_of_some]
    rw [RW_new, RW_lst, RW_nil]
    refine ⟨by show 0 ≤ sizeLine; omega, ?_⟩
    rw [gEq_nil (get_push hsx) last_of hzT.1, RW_of_some]
    refine ⟨_, rfl, ?_⟩
    have kp := Kp.refl.push (F := []) (s := s2) (q := [Ob.lst ([] : List D)])
    have t3 := u2.two.keep kp (fun _ _ => by simp) fun _ _ => by simp
    have b3 := u2.bas.kp kp (by simp) h3
    generalize (s2 ++ [Ob.lst ([] : List D)]) = s3 at *
    by_cases hzn : decide (z = []) = true
    · rw [if_pos hzn, SW_ret, RW_bin]
      have hz0 : S.wt.getD c [] = [] := by rw [hzw]; exact of_decide_eq_true hzn
      refine RW_lam (v := nothP) (s1 := s3 ++ refQ3) (fun f => asked_ref3 A hA (by
        rw [dk_meth (x := "reach") (f := l_Disk_reach_3 A) (ma := mCons (mVar 5) mNil) (i := 1) (ds := [.int (c : Int)]) t3.dk (by decide) rfl rfl, (up_reach A).exc (reach_none2 A t3.dk t3.ok hc hz0)])) ?_
      rw [RW_tup, RW_cons, RW_C, RW_cons, RW_C, RW_nil]
      refine ⟨z2, ?_⟩
      rw [gEq_noth, RW_of_some]
      exact ⟨rfl, _, F, G, (Pair.up ⟨t3.keep (Kp.refl.push (F := [])) (fun _ _ => by simp) fun _ _ => by simp, b3.kp (Kp.refl.push (F := [])) (by simp) h3, u2.few⟩ (by omega))⟩
    · rw [if_neg hzn, SW_next]
      have hzne : S.wt.getD c [] ≠ [] := by rw [hzw]; exact fun e => hzn (decide_eq_true e)
      obtain ⟨t, rs, hwc⟩ := getD_cons hzne
      rw [SW_seq, SW_asg, RW_ifE, RW_asT, RW_call, RW_cons, RW_var]
      refine ⟨_, rfl, ?_⟩
      rw [RW_cons, RW_var]
      refine ⟨_, rfl, ?_⟩
      rw [RW_nil]
      by_cases hp : S.pw = some 0
      · rw [lreached_stop A t3.ac hp, RW_ok]
        refine ⟨false, rfl, ?_⟩
        rw [if_neg (by decide), RW_tup, RW_cons, RW_C, RW_cons, RW_C, RW_nil]
        refine ⟨z2, ?_⟩
        rw [RW_gName, SW_ret, RW_bin]
        refine RW_lam (v := stopP) (s1 := s3 ++ refQ4) (fun f => asked_ref4 A hA (by
          rw [dk_meth (x := "reach") (f := l_Disk_reach_3 A) (ma := mCons (mVar 5) mNil) (i := 1) (ds := [.int (c : Int)]) t3.dk (by decide) rfl rfl, (up_reach A).exc (reach_stop2 A t3.dk t3.ok hc hzne hp)])) ?_
        rw [RW_var]
        refine ⟨_, rfl, ?_⟩
        rw [gEq_stop, RW_of_some]
        exact ⟨rfl, _, F, G, (Pair.up ⟨t3.keep (Kp.refl.push (F := [])) (fun _ _ => by simp) fun _ _ => by simp, b3.kp (Kp.refl.push (F := [])) (by simp) h3, u2.few⟩ (by omega))⟩
      · refine (lreached_ok A t3.ac t3.ok hp hwc).imp fun v s4 ⟨e, a4, k4⟩ => ?_
        subst e
        have d4 := t3.dk.keep k4 t3.dj
        have b4 := b3.kp k4 t3.gb h3
        obtain ⟨s5, F5, e5, g5, k5, f5⟩ := reach_ok2 A d4 t3.ok hc hzne hp
        have a5 := a4.keep k5 (sym_dj t3.dj)
        have b5 := b4.kp k5 t3.fb h3
        have dj5 := sep_new f5 t3.dj a4.lt
        refine ⟨true, rfl, ?_⟩
        rw [if_pos rfl, RW_tup, RW_cons, RW_C, RW_cons, RW_C, RW_nil]
        refine ⟨z2, ?_⟩
        rw [RW_gName, SW_ret, RW_bin]
        refine RW_lam (v := toldP) (s1 := s5) (fun f => asked_told3 A (by
          rw [dk_meth (x := "reach") (f := l_Disk_reach_3 A) (ma := mCons (mVar 5) mNil) (i := 1) (ds := [.int (c : Int)]) d4 (by decide) rfl rfl, (up_reach A).ok e5])) ?_
        rw [RW_var]
        refine ⟨_, rfl, ?_⟩
        rw [gEq_told, RW_of_some]
        exact ⟨rfl, _, F5, G, ⟨⟨g5, a5, t3.ok.one hp hzne, dj5, fun x hx => (f5 x hx).elim (t3.fb x) fun q => by have := b4.le; omega, t3.gb⟩, b5, fun c' => Nat.le_trans one_wl (Nat.le_trans (u2.few c') (by omega))⟩⟩
  rw [if_neg hk2, SW_next, SW_seq, SW_if, RW_asB, RW_bin, RW_var]
  refine ⟨_, rfl, ?_⟩
  rw [RW_C, gEq_int, RW_of_some]
  refine ⟨_, rfl, ?_⟩
  by_cases hk3 : decide (kd = 8) = true
  · rw [if_pos hk3, SW_seq, SW_asg, RW_ifE, RW_asT, RW_call, RW_cons, RW_var]
    refine ⟨_, rfl, ?_⟩
    rw [RW_nil]
    have t2 := u2.two
    refine (lcalmed_spec A t2.ac t2.ok).imp fun v s3 ⟨e, a3, k3⟩ => ?_
    subst e
    have d3 := t2.dk.keep k3 t2.dj
    have b3 := u2.bas.kp k3 t2.gb h3
    obtain ⟨s4, F4, g4, o4, k4, f4, e4⟩ := calm_spec A d3 t2.ok hn
    have a4 := a3.keep k4 (sym_dj t2.dj)
    have b4 := b3.kp k4 t2.fb h3
    have dj4 := sep_new f4 t2.dj a3.lt
    have P4 : Pair A n b (m + 1) s0 s4 d a (S.calm (List.range n)).1 F4 G := ⟨⟨g4, a4, o4, dj4, fun x hx => (f4 x hx).elim (t2.fb x) fun q => by have := b3.le; omega, t2.gb⟩, b4, fun c' => Nat.le_trans (calm_wl _) (Nat.le_trans (u2.few c') (by omega))⟩
    refine ⟨_, rfl, ?_⟩
    cases hb : (S.calm (List.range n)).2 with
    | true =>
      rw [if_pos hb] at e4
      rw [if_pos rfl, RW_tup, RW_cons, RW_C, RW_cons, RW_C, RW_nil]
      refine ⟨z2, ?_⟩
      rw [RW_gName, SW_ret, RW_bin]
      refine RW_lam (v := toldP) (s1 := s4) (fun f => asked_told3 A (by
        rw [dk_meth (x := "calm") (f := l_Disk_calm A) (ma := mNil) (i := 1) (ds := []) d3 (by decide) rfl rfl, e4])) ?_
      rw [RW_var]
      refine ⟨_, rfl, ?_⟩
      rw [gEq_told, RW_of_some]
      exact ⟨rfl, _, F4, G, P4⟩
    | false =>
      rw [hb] at e4
      rw [if_neg (by decide), RW_tup, RW_cons, RW_C, RW_cons, RW_C, RW_nil]
      refine ⟨z2, ?_⟩
      rw [RW_gName, SW_ret, RW_bin]
      refine RW_lam (v := stopP) (s1 := s4 ++ refQ4) (fun f => asked_ref4 A hA (by
        rw [dk_meth (x := "calm") (f := l_Disk_calm A) (ma := mNil) (i := 1) (ds := []) d3 (by decide) rfl rfl, e4]; rfl)) ?_
      rw [RW_var]
      refine ⟨_, rfl, ?_⟩
      rw [gEq_stop, RW_of_some]
      exact ⟨rfl, _, F4, G, ⟨P4.two.keep (Kp.refl.push (F := [])) (fun _ _ => by simp) fun _ _ => by simp, P4.bas.kp (Kp.refl.push (F := [])) (by simp) h3, P4.few⟩⟩
  rw [if_neg hk3, SW_next, SW_seq, SW_if, RW_asB, RW_bin, RW_var]
  refine ⟨_, rfl, ?_⟩
  rw [RW_C, gEq_int, RW_of_some]
  refine ⟨_, rfl, ?_⟩
  have t2 := u2.two
  by_cases hk4 : decide (kd = 9) = true
  · rw [if_pos hk4, SW_seq, SW_drop, RW_call, RW_cons, RW_var]
    refine ⟨_, rfl, ?_⟩
    rw [RW_nil]
    refine (lost_spec A t2.ac t2.ok).imp fun v s3 ⟨_, G3, a3, k3, f3⟩ => ?_
    have d3 := t2.dk.keep k3 t2.dj
    have b3 := u2.bas.kp k3 t2.gb h3
    have dj3 := sep_new f3 (sym_dj t2.dj) t2.lt.1
    obtain ⟨v, s4, e4, rfl, F4, g4, k4, f4⟩ := (cut_spec A d3 t2.ok).get
    have a4 := a3.keep k4 dj3
    have b4 := b3.kp k4 t2.fb h3
    have dj4 := sep_new f4 (sym_dj dj3) a3.lt
    rw [SW_ret, RW_bin]
    refine RW_lam (v := toldP) (s1 := s4) (fun f => asked_told3 A (by
      rw [dk_meth (x := "cut") (f := l_Disk_cut A) (ma := mNil) (i := 1) (ds := []) d3 (by decide) rfl rfl, e4])) ?_
    rw [RW_tup, RW_cons, RW_C, RW_cons, RW_C, RW_nil]
    refine ⟨z2, ?_⟩
    rw [gEq_told, RW_of_some]
    exact ⟨rfl, _, F4, G3, ⟨⟨g4, a4, Dst.Ok.at0 t2.ok.n0 t2.ok.n1 t2.ok.ly t2.ok.tl, dj4, fun x hx => (f4 x hx).elim (t2.fb x) fun q => by have := b3.le; omega, fun x hx => (f3 x hx).elim (t2.gb x) fun q => by have := u2.bas.le; omega⟩, b4, fun c' => by rw [w_at0]; simp⟩⟩
  rw [if_neg hk4, SW_next, SW_seq]
  refine SW.midr (fun r s3 => ∃ p : Option Int, (∀ i, p = some i → 0 ≤ i ∧ i ≤ 1000000) ∧ r = env9 d a (some (.int (n : Int))) (some (.int kd)) (some (.int (c : Int))) none none (some (pwD p)) ∧ Pair A n b m s0 s3 d a S F G) ?_ ?_
  · have hl2 := u2.bas.hs.len
    rw [SW_asg, RW_call, RW_cons, RW_var]
    refine ⟨_, rfl, ?_⟩
    simp
    refine ⟨small24 (by omega), ?_⟩
    refine (any_spec A (xs := [.non, .int 0, .int 1, .int 2, .int 3, .int 1000000]) u2.bas.hs.push (.inr ⟨s2.length, by omega, rfl, last_of⟩) (by simp) (by simp)).imp fun v s3 ⟨hv, h3', f3⟩ => ?_
    have x3 : Ext s2 s3 := (Ext.refl.push).trans f3.ext
    have P3 : Pair A n b m s0 s3 d a S F G := ⟨t2.ext x3 h3, u2.bas.ext x3 h3', u2.few⟩
    simp at hv
    rcases hv with rfl | rfl | rfl | rfl | rfl | rfl
    · exact ⟨none, by simp, rfl, P3⟩
    · exact ⟨some 0, by simp, rfl, P3⟩
    · exact ⟨some 1, by simp, rfl, P3⟩
    · exact ⟨some 2, by simp, rfl, P3⟩
    · exact ⟨some 3, by simp, rfl, P3⟩
    · exact ⟨some 1000000, by simp, rfl, P3⟩
  rintro r s3 ⟨p, hpb, rfl, u3⟩
  have t3 := u3.two
  rw [SW_seq]
  refine lpowerV t3.ac rfl rfl fun s4 a4 k4 => ?_
  have d4 := t3.dk.keep k4 t3.dj
  have b4 := u3.bas.kp k4 t3.gb h3
  have hpow : ∃ s5, l_Disk_power A [.loc d, pwD p] s4 = .ok .non s5 ∧ Dk A s5 d { S with pw := p } F ∧ Kp F s4 s5 := by
    cases p with
    | none =>
      obtain ⟨v, s5, e, rfl, q⟩ := (power_none A (n := n) d4).get
      exact ⟨s5, e, q⟩
    | some i =>
      obtain ⟨v, s5, e, rfl, q⟩ := (power_spec A d4 t3.ok (m := i) (hpb i rfl)).get
      exact ⟨s5, e, q⟩
  obtain ⟨s5, e5, g5, k5⟩ := hpow
  have a5 := a4.keep k5 (sym_dj t3.dj)
  have b5 := b4.kp k5 t3.fb h3
  rw [SW_ret, RW_bin]
  refine RW_lam (v := toldP) (s1 := s5) (fun f => asked_told3 A (by
    rw [dk_meth (x := "power") (f := l_Disk_power_2 A) (ma := mCons (mVar 8) mNil) (i := 1) (ds := [pwD p]) d4 (by decide) rfl rfl, (up_power A).ok e5])) ?_
  rw [RW_tup, RW_cons, RW_C, RW_cons, RW_C, RW_nil]
  refine ⟨z2, ?_⟩
  rw [gEq_told, RW_of_some]
  refine ⟨rfl, { S with pw := p }, F, G, ⟨⟨g5, a5, ⟨t3.ok.n0, t3.ok.n1, t3.ok.ly, t3.ok.wt, t3.ok.tl, t3.ok.tw, fun i hi => (hpb i hi).1⟩, t3.dj, t3.fb, t3.gb⟩, b5, fun c' => ?_⟩⟩
  have := u3.few c'
  show (S.w c').length ≤ m + 1
  omega
end DL
end
/-! ### H8 -/
section
set_option linter.all false
set_option maxRecDepth 100000
set_option maxHeartbeats 4000000
/-! H8: odd arguments. -/
namespace DL
open PySem PySem.Spec L2
open PyProof.Rows hiding St
/-- what no cell can hold -/
def BadT (s : Sto) (v : D) : Prop := (∃ xs, v = .tup xs ∧ xs.length ≠ 0 ∧ xs.length ≠ 3) ∨ (∃ a b c, v = .tup [a, b, c] ∧ (OdV s a ∧ OdV s b ∧ OdV s c) ∧ ¬ (inR 0 1000000 a = true ∧ inR 0 1000000 b = true ∧ inR 0 1000000 c = true)) ∨ ((∀ xs, v ≠ .tup xs) ∧ OdV s v)
theorem BadT.ext {s s' : Sto} {v : D} (h : BadT s v) (e : Ext s s') : BadT s' v := by
  rcases h with h | ⟨a, b, c, h1, ⟨h2, h3, h4⟩, h5⟩ | ⟨h1, h2⟩
  · exact .inl h
  · exact .inr (.inl ⟨a, b, c, h1, ⟨h2.ext e, h3.ext e, h4.ext e⟩, h5⟩)
  · exact .inr (.inr ⟨h1, h2.ext e⟩)
theorem BadT.no (A : Str → Addr) {s : Sto} {v : D} (h : BadT s v) : l_is_thing A [v] s = .ok (.bl false) s := by
  rcases h with ⟨xs, rfl, h1, h2⟩ | ⟨a, b, c, rfl, h1, h2⟩ | ⟨h1, h2⟩
  · exact thing_tup A ⟨h1, h2⟩
  · exact thing_tri A h1 h2
  · obtain ⟨t, ht⟩ := h2.ty
    exact thing_no A ht h1
theorem Pair.ext {A : Str → Addr} {n b m : Nat} {s0 s s' : Sto} {d a : Nat} {S : Dst} {F G : List Nat} (u : Pair A n b m s0 s d a S F G) (h3 : 3 ≤ b) (e : Ext s s') (hs : HS s') : Pair A n b m s0 s' d a S F G := ⟨u.two.ext e h3, u.bas.ext e hs, u.few⟩
theorem Pair.push {A : Str → Addr} {n b m : Nat} {s0 s : Sto} {d a : Nat} {S : Dst} {F G : List Nat} {q : Sto} (u : Pair A n b m s0 s d a S F G) (h3 : 3 ≤ b) : Pair A n b m s0 (s ++ q) d a S F G := u.ext h3 (Ext.refl.push) u.bas.hs.push
abbrev refD (w : Str) : D := .tup [.str "refused", .str w]
theorem gEq_ref {s : Sto} {w : Str} (h : PyData.strOk w = true) : gEq (refD w) (refD w) s = some (.bl true, s) := by
  simp [gEq, eqB, D.py, D.pyW, D.pysW, SeqAt.shaped, PyData.canLay0, PyData.canLayAll0, PyData.depth, PyData.depthAll, PyData.eqv, PyData.eqvAll, h, show PyData.strOk (Str.ofString "refused") = true from by decide +kernel]
abbrev env12 (d a : Nat) (v3 v4 v5 v6 v7 v8 v9 v10 v11 : Option D) : Env := [some (.loc 2), some (.loc d), some (.loc a), v3, v4, v5, v6, v7, v8, v9, v10, v11]
theorem lodd_right {A : Str → Addr} (hA : NeB A) {n b m : Nat} {s0 s : Sto} {d a : Nat} {S : Dst} {F G : List Nat} (h3 : 3 ≤ b) (u : Pair A n b m s0 s d a S F G) (hn : n < 64) :
    RW (l_law_odd_right A [.loc 2, .loc d, .loc a] s) fun v s' => Good A n b m s0 d a v s' := by
  have hn0 := u.two.ok.n0
  have z1 : 1 ≤ sizeLine := small24 (by omega)
  have z2 : 2 ≤ sizeLine := small24 (by omega)
  have z3 : 3 ≤ sizeLine := small24 (by omega)
  have z4 : 4 ≤ sizeLine := small24 (by omega)
  have z8 : 8 ≤ sizeLine := small24 (by omega)
  have z9 : 9 ≤ sizeLine := small24 (by omega)
  have z13 : 13 ≤ sizeLine := small24 (by omega)
  unfold l_law_odd_right
  obtain ⟨big, hbig⟩ : ∃ x : Int, x = 10 ^ 39 := ⟨_, rfl⟩
  have hbg : 1000000 < big := by rw [hbig]; decide
  have gbig : ∀ s, gPow (.int 10) (.int 39) s = some (.int big, s) := fun s => by rw [hbig]; exact gPow_int (by decide)
  rw [RW_def]
  refine ⟨rfl, ?_⟩
  -- cells
  rw [SW_seq]
  refine SW.midr (fun r s1 => r = env12 d a (some (.int (n : Int))) none none none none none none none none ∧ Pair A n b m s0 s1 d a S F G) ?_ ?_
  · rw [SW_asg, RW_callB, RW_cons, RW_bin, RW_var]
    refine ⟨_, rfl, ?_⟩
    obtain ⟨l, w, p, hG, gg⟩ := id u.two.ac
    obtain ⟨e1, e2, e3, e4⟩ := gIx_ac gg.ob
    rw [RW_C, e1, RW_of_some, RW_nil, gLen_lst gg.ly, u.two.ok.ly, RW_of_some, RW_gName]
    exact ⟨rfl, u⟩
  rintro r s1 ⟨rfl, u1⟩
  -- odd cells
  rw [SW_seq]
  refine SW.midr (fun r s2 => (∃ m4 xs, r = env12 d a (some (.int (n : Int))) (some (.loc m4)) none none none none none none none ∧ s2[m4]? = some (.lst xs) ∧ m4 ≠ 2 ∧ xs ≠ [] ∧ xs.length < 100 ∧ ∀ x ∈ xs, OdV s2 x ∧ inR 0 ((n : Int) - 1) x = false) ∧ Pair A n b m s0 s2 d a S F G) ?_ ?_
  · have hle := u1.bas.le
    rw [SW_asg, RW_new, RW_lst, RW_cons, RW_var]
    refine ⟨_, rfl, ?_⟩
    rw [RW_cons, RW_neg, RW_C]
    refine ⟨1, rfl, ?_⟩
    rw [RW_cons, RW_C, RW_cons, RW_C, RW_cons, RW_C, RW_cons, RW_tup, RW_cons, RW_C, RW_nil]
    refine ⟨z1, ?_⟩
    rw [RW_cons, RW_new, RW_lst, RW_cons, RW_C, RW_nil]
    refine ⟨z1, ?_⟩
    rw [RW_cons, RW_bin, RW_C, RW_C, gbig, RW_of_some, RW_cons, RW_call, RW_cons, RW_var]
    refine ⟨_, rfl, ?_⟩
    rw [RW_nil]
    have p1 := u1.push (q := [Ob.lst [D.int 0]]) h3
    have m1 : (s1 ++ [Ob.lst [D.int 0]])[s1.length]? = some (.lst [.int 0]) := last_of
    refine (nested_spec A p1.bas.hs).imp fun v s2 ⟨⟨y, hy⟩, h2, x2⟩ => ?_
    subst hy
    rw [RW_nil]
    refine ⟨z9, ?_⟩
    rw [RW_gName]
    have m2 : s2[s1.length]? = some (.lst [.int 0]) := by rw [x2.2 _ (by omega) (by simp)]; exact m1
    have hl2 := x2.1
    have e1 : Ext s2 (s2 ++ [Ob.lst [D.int (n : Int), .int (-1), .bl true, .non, .str "0", .tup [.int 0], .loc s1.length, .int big, .tup [y]]]) := Ext.refl.push
    refine ⟨⟨_, _, rfl, last_of, by simp at hl2; omega, by simp, by simp, fun x hx => ?_⟩, (p1.ext h3 x2 h2).push h3⟩
    refine ⟨?_, ?_⟩
    · simp only [List.mem_cons, List.not_mem_nil, or_false] at hx
      rcases hx with rfl | rfl | rfl | rfl | rfl | rfl | rfl | rfl | rfl
      · exact .int
      · exact .int
      · exact .bl
      · exact .non
      · exact .str
      · exact .tup
      · exact .lst (get_push m2) (by omega)
      · exact .int
      · exact .tup
    · simp only [List.mem_cons, List.not_mem_nil, or_false] at hx
      rcases hx with rfl | rfl | rfl | rfl | rfl | rfl | rfl | rfl | rfl <;> simp [inR] <;> omega
  rintro r s2 ⟨⟨m4, xs, rfl, hm4, hm42, hx0, hxl, hxs⟩, u2⟩
  -- the cell
  rw [SW_seq]
  refine SW.midr (fun r s3 => (∃ v5, r = env12 d a (some (.int (n : Int))) (some (.loc m4)) (some v5) none none none none none none ∧ OdV s3 v5 ∧ (inR 0 ((n : Int) - 1) v5 = true → ∃ c : Nat, c < n ∧ v5 = .int (c : Int))) ∧ Pair A n b m s0 s3 d a S F G) ?_ ?_
  · rw [SW_asg, RW_ifE, RW_asB, RW_bin, RW_call, RW_cons, RW_var]
    refine ⟨_, rfl, ?_⟩
    rw [RW_cons, RW_C, RW_nil]
    refine (draw_spec A (many := 2) (by omega) u2.bas.hs).imp fun v s3 ⟨z, e, z0, z1', h3', f3⟩ => ?_
    subst e
    have u3 := u2.ext h3 f3.ext h3'
    rw [RW_C, gEq_int, RW_of_some]
    refine ⟨_, rfl, ?_⟩
    by_cases hz : decide (z = 0) = true
    · rw [if_pos hz, RW_call, RW_cons, RW_var]
      refine ⟨_, rfl, ?_⟩
      rw [RW_cons, RW_var]
      refine ⟨_, rfl, ?_⟩
      rw [RW_nil]
      refine (draw_spec A (many := (n : Int)) (by omega) u3.bas.hs).imp fun v s4 ⟨z, e, z0, z1', h4, f4⟩ => ?_
      subst e
      obtain ⟨c, rfl⟩ := Int.eq_ofNat_of_zero_le z0
      rw [RW_gName]
      exact ⟨⟨_, rfl, .int, fun _ => ⟨c, by omega, rfl⟩⟩, u3.ext h3 f4.ext h4⟩
    · rw [if_neg hz, RW_call, RW_cons, RW_var]
      refine ⟨_, rfl, ?_⟩
      rw [RW_cons, RW_var]
      refine ⟨_, rfl, ?_⟩
      rw [RW_nil]
      have hm5 : s3[m4]? = some (.lst xs) := by rw [f3.2 _ hm42]; exact hm4
      refine (any_spec A (xs := xs) u3.bas.hs (.inr ⟨m4, hm42, rfl, hm5⟩) hx0 (by omega)).imp fun v s4 ⟨hv, h4, f4⟩ => ?_
      rw [RW_gName]
      obtain ⟨q1, q2⟩ := hxs v hv
      exact ⟨⟨v, rfl, (q1.ext f3.ext).ext f4.ext, fun e => by rw [q2] at e; cases e⟩, u3.ext h3 f4.ext h4⟩
  rintro r s3 ⟨⟨v5, rfl, o5, hc5⟩, u3⟩
  obtain ⟨t5, ht5⟩ := o5.ty
  -- whether it is one
  obtain ⟨isc, hisc⟩ : ∃ q, q = inR 0 ((n : Int) - 1) v5 := ⟨_, rfl⟩
  rw [SW_seq]
  refine SW.midr (fun r s4 => r = env12 d a (some (.int (n : Int))) (some (.loc m4)) (some v5) (some (.bl isc)) none none none none none ∧ s3 = s4) ?_ ?_
  · rw [SW_asg, RW_call, RW_cons, RW_var]
    refine ⟨_, rfl, ?_⟩
    rw [RW_cons, RW_var]
    refine ⟨_, rfl, ?_⟩
    rw [RW_nil, is_value_spec ht5, RW_ok, RW_gName, hisc]
    exact ⟨rfl, rfl⟩
  rintro r s4 ⟨rfl, rfl⟩
  -- things
  rw [SW_seq]
  refine SW.midr (fun r s4 => (∃ m7 xs, r = env12 d a (some (.int (n : Int))) (some (.loc m4)) (some v5) (some (.bl isc)) (some (.loc m7)) none none none none ∧ s4[m7]? = some (.lst xs) ∧ m7 ≠ 2 ∧ xs.length = 9 ∧ ∀ x ∈ xs, BadT s4 x) ∧ Ext s3 s4 ∧ Pair A n b m s0 s4 d a S F G) ?_ ?_
  · have hle := u3.bas.le
    have hp6 : ∀ s, gPow (.int 10) (.int 6) s = some (.int 1000000, s) := fun s => gPow_int (by decide)
    rw [SW_asg, RW_new, RW_lst, RW_cons, RW_tup, RW_cons, RW_C, RW_cons, RW_C, RW_nil]
    refine ⟨z2, ?_⟩
    rw [RW_cons, RW_tup, RW_cons, RW_C, RW_cons, RW_C, RW_cons, RW_C, RW_cons, RW_C, RW_nil]
    refine ⟨z4, ?_⟩
    rw [RW_cons, RW_tup, RW_cons, RW_C, RW_cons, RW_C, RW_cons, RW_bin, RW_bin, RW_C, RW_C, hp6, RW_of_some, RW_C, gAdd_int, RW_of_some, RW_nil]
    refine ⟨z3, ?_⟩
    rw [RW_cons, RW_tup, RW_cons, RW_C, RW_cons, RW_neg, RW_C]
    refine ⟨1, rfl, ?_⟩
    rw [RW_cons, RW_C, RW_nil]
    refine ⟨z3, ?_⟩
    rw [RW_cons, RW_tup, RW_cons, RW_C, RW_cons, RW_C, RW_cons, RW_C, RW_nil]
    refine ⟨z3, ?_⟩
    rw [RW_cons, RW_new, RW_lst, RW_cons, RW_C, RW_cons, RW_C, RW_cons, RW_C, RW_nil]
    refine ⟨z3, ?_⟩
    rw [RW_cons, RW_new, RW_lst, RW_nil]
    refine ⟨by show 0 ≤ sizeLine; omega, ?_⟩
    rw [RW_cons, RW_C, RW_cons, RW_C, RW_nil]
    refine ⟨z9, ?_⟩
    rw [RW_gName]
    have p1 := (u3.push (q := [Ob.lst [D.int 1, D.int 2, D.int 3]]) h3).push (q := [Ob.lst []]) h3
    have m1 : (s3 ++ [Ob.lst [D.int 1, D.int 2, D.int 3]] ++ [Ob.lst []])[s3.length]? = some (.lst [D.int 1, D.int 2, D.int 3]) := get_push last_of
    have m2 : (s3 ++ [Ob.lst [D.int 1, D.int 2, D.int 3]] ++ [Ob.lst []])[(s3 ++ [Ob.lst [D.int 1, D.int 2, D.int 3]]).length]? = some (.lst []) := last_of
    have e1 : Ext s3 (s3 ++ [Ob.lst [D.int 1, D.int 2, D.int 3]] ++ [Ob.lst []]) := (Ext.refl.push).push
    have l1 : (s3 ++ [Ob.lst [D.int 1, D.int 2, D.int 3]]).length = s3.length + 1 := by simp
    have l2 : (s3 ++ [Ob.lst [D.int 1, D.int 2, D.int 3]] ++ [Ob.lst []]).length = s3.length + 2 := by simp
    generalize (s3 ++ [Ob.lst [D.int 1, D.int 2, D.int 3]] ++ [Ob.lst []]) = s4 at *
    rw [l1] at m2 ⊢
    refine ⟨⟨s4.length, _, rfl, last_of, by omega, rfl, fun x hx => ?_⟩, e1.push, p1.push h3⟩
    simp only [List.mem_cons, List.not_mem_nil, or_false] at hx
    rcases hx with rfl | rfl | rfl | rfl | rfl | rfl | rfl | rfl | rfl
    · exact .inl ⟨_, rfl, by simp, by simp⟩
    · exact .inl ⟨_, rfl, by simp, by simp⟩
    · exact .inr (.inl ⟨_, _, _, rfl, ⟨.int, .int, .int⟩, by simp [inR]⟩)
    · exact .inr (.inl ⟨_, _, _, rfl, ⟨.int, .int, .int⟩, by simp [inR]⟩)
    · exact .inr (.inl ⟨_, _, _, rfl, ⟨.int, .bl, .int⟩, by simp [inR]⟩)
    · exact .inr (.inr ⟨fun _ h => (by cases h), .lst (get_push m1) (by omega)⟩)
    · exact .inr (.inr ⟨fun _ h => (by cases h), .lst (get_push m2) (by omega)⟩)
    · exact .inr (.inr ⟨fun _ h => (by cases h), .non⟩)
    · exact .inr (.inr ⟨fun _ h => (by cases h), .str⟩)
  rintro r s4 ⟨⟨m7, ts, rfl, hm7, hm72, htl, hts⟩, x4, u4⟩
  have o5' := o5.ext x4
  clear o5 ht5 x4 u3
  rw [SW_seq]
  refine SW.midr (fun r s5 => (∃ v8, r = env12 d a (some (.int (n : Int))) (some (.loc m4)) (some v5) (some (.bl isc)) (some (.loc m7)) (some v8) none none none ∧ BadT s5 v8) ∧ Ext s4 s5 ∧ Pair A n b m s0 s5 d a S F G) ?_ ?_
  · have hle := u4.bas.le
    have hl7 := len_of hm7
    rw [SW_asg, RW_call, RW_cons, RW_var]
    refine ⟨_, rfl, ?_⟩
    rw [RW_cons, RW_bin, RW_var]
    refine ⟨_, rfl, ?_⟩
    rw [RW_new, RW_lst, RW_cons, RW_bin, RW_tup, RW_cons, RW_C, RW_nil]
    refine ⟨z1, ?_⟩
    rw [RW_C, gMul_tup (k := 3) (by omega), RW_of_some, RW_cons, RW_newD, RW_ok, RW_cons, RW_C, RW_cons, RW_call, RW_cons, RW_var]
    refine ⟨_, rfl, ?_⟩
    rw [RW_nil]
    have p1 := u4.push (q := [Ob.dct []]) h3
    have m1 : (s4 ++ [Ob.dct []])[s4.length]? = some (.dct []) := last_of
    refine (nested_spec A p1.bas.hs).imp fun v s5 ⟨⟨y, hy⟩, h5, x5⟩ => ?_
    subst hy
    rw [RW_nil]
    refine ⟨z4, ?_⟩
    have hl5 := x5.1
    simp only [List.length_append, List.length_singleton] at hl5
    have m2 : s5[s4.length]? = some (.dct []) := by rw [x5.2 _ (by omega) (by simp)]; exact m1
    have m3 : s5[m7]? = some (.lst ts) := by rw [x5.2 _ hm72 (by simp; omega)]; exact get_push hm7
    have x45 : Ext s4 s5 := (Ext.refl.push).trans x5
    rw [gAdd_rows (get_push m3) last_of (by rw [htl]; exact z13), RW_of_some, RW_nil]
    have p5 := ((p1.ext h3 x5 h5).push (q := [Ob.lst [D.tup (List.replicate (3 : Int).toNat D.non), D.loc s4.length, D.int 0, D.tup [y]]]) h3)
    have p6 := p5.push (q := [Ob.lst (ts ++ [D.tup (List.replicate (3 : Int).toNat D.non), D.loc s4.length, D.int 0, D.tup [y]])]) h3
    have e6 : Ext s5 (s5 ++ [Ob.lst [D.tup (List.replicate (3 : Int).toNat D.non), D.loc s4.length, D.int 0, D.tup [y]]] ++ [Ob.lst (ts ++ [D.tup (List.replicate (3 : Int).toNat D.non), D.loc s4.length, D.int 0, D.tup [y]])]) := (Ext.refl.push).push
    have lq : (s5 ++ [Ob.lst [D.tup (List.replicate (3 : Int).toNat D.non), D.loc s4.length, D.int 0, D.tup [y]]]).length ≠ 2 := by simp; omega
    have hq : (s5 ++ [Ob.lst [D.tup (List.replicate (3 : Int).toNat D.non), D.loc s4.length, D.int 0, D.tup [y]]] ++ [Ob.lst (ts ++ [D.tup (List.replicate (3 : Int).toNat D.non), D.loc s4.length, D.int 0, D.tup [y]])])[(s5 ++ [Ob.lst [D.tup (List.replicate (3 : Int).toNat D.non), D.loc s4.length, D.int 0, D.tup [y]]]).length]? = some (.lst (ts ++ [D.tup (List.replicate (3 : Int).toNat D.non), D.loc s4.length, D.int 0, D.tup [y]])) := last_of
    have hbt : ∀ x ∈ ts ++ [D.tup (List.replicate (3 : Int).toNat D.non), D.loc s4.length, D.int 0, D.tup [y]], BadT s5 x := fun x hx => by
      rcases List.mem_append.mp hx with hx | hx
      · exact (hts x hx).ext x45
      · simp only [List.mem_cons, List.not_mem_nil, or_false] at hx
        rcases hx with rfl | rfl | rfl | rfl
        · exact .inr (.inl ⟨.non, .non, .non, rfl, ⟨.non, .non, .non⟩, by simp [inR]⟩)
        · exact .inr (.inr ⟨fun _ h => (by cases h), .dct m2 (by omega)⟩)
        · exact .inr (.inr ⟨fun _ h => (by cases h), .int⟩)
        · exact .inl ⟨_, rfl, by simp, by simp⟩
    have hz : (ts ++ [D.tup (List.replicate (3 : Int).toNat D.non), D.loc s4.length, D.int 0, D.tup [y]]).length = 13 := by simp [htl]
    generalize (ts ++ [D.tup (List.replicate (3 : Int).toNat D.non), D.loc s4.length, D.int 0, D.tup [y]]) = zs at *
    generalize (s5 ++ [Ob.lst [D.tup (List.replicate (3 : Int).toNat D.non), D.loc s4.length, D.int 0, D.tup [y]]]).length = mq at *
    generalize (s5 ++ [Ob.lst [D.tup (List.replicate (3 : Int).toNat D.non), D.loc s4.length, D.int 0, D.tup [y]]] ++ [Ob.lst zs]) = s6 at *
    refine (any_spec A (xs := zs) p6.bas.hs (.inr ⟨mq, lq, rfl, hq⟩) (by intro e; rw [e] at hz; cases hz) (by omega)).imp fun v s7 ⟨hv, h7, f7⟩ => ?_
    rw [RW_gName]
    exact ⟨⟨v, rfl, ((hbt v hv).ext e6).ext f7.ext⟩, (x45.trans e6).trans f7.ext, p6.ext h3 f7.ext h7⟩
  rintro r s5 ⟨⟨v8, rfl, b8⟩, x5, u5⟩
  have o5 := o5'.ext x5
  clear o5' x5 u4
  rw [SW_seq]
  refine SW.midr (fun r s6 => (∃ kd : Int, r = env12 d a (some (.int (n : Int))) (some (.loc m4)) (some v5) (some (.bl isc)) (some (.loc m7)) (some v8) (some (.int kd)) none none) ∧ Ext s5 s6 ∧ Pair A n b m s0 s6 d a S F G) ?_ ?_
  · rw [SW_asg, RW_call, RW_cons, RW_var]
    refine ⟨_, rfl, ?_⟩
    rw [RW_cons, RW_C, RW_nil]
    refine (draw_spec A (many := 5) (by omega) u5.bas.hs).imp fun v s6 ⟨z, e, z0, z1', h6, f6⟩ => ?_
    subst e
    rw [RW_gName]
    exact ⟨⟨z, rfl⟩, f6.ext, u5.ext h3 f6.ext h6⟩
  rintro r s6 ⟨⟨kd, rfl⟩, x6, u6⟩
  have o6 := o5.ext x6
  have b6 := b8.ext x6
  obtain ⟨t6, ht6⟩ := o6.ty
  clear o5 b8 x6 u5
  have t2 := u6.two
  have gP : ∀ q : Sto, Pair A n b m s0 (s6 ++ q) d a S F G := fun q => u6.push h3
  have noC : isc = false → ∀ {w : Str} (hw : PyData.strOk w = true), True := fun _ _ _ => trivial
  rw [SW_seq, SW_if, RW_asB, RW_bin, RW_var]
  refine ⟨_, rfl, ?_⟩
  rw [RW_C, gEq_int, RW_of_some]
  refine ⟨_, rfl, ?_⟩
  by_cases hk0 : decide (kd = 0) = true
  · rw [if_pos hk0, SW_ret, RW_bin]
    cases hi : isc with
    | true =>
      obtain ⟨c, hc, rfl⟩ := hc5 (by rw [← hisc, hi])
      refine RW_lam (v := refD "thing") (s1 := s6 ++ refQ2) (fun f => asked_ref2 A hA (by
        rw [dk_meth (x := "write") (f := l_Disk_write_2 A) (ma := mCons (mVar 5) (mCons (mVar 8) mNil)) (i := 1) (ds := [.int (c : Int), v8]) t2.dk (by decide) rfl rfl, write_bad t2.dk t2.ok hc (b6.no A)])) ?_
      rw [RW_tup, RW_cons, RW_C, RW_cons, RW_ifE, RW_asT, RW_var]
      refine ⟨_, rfl, true, rfl, ?_⟩
      rw [if_pos rfl, RW_C, RW_nil]
      refine ⟨z2, ?_⟩
      rw [gEq_ref (by decide +kernel), RW_of_some]
      exact ⟨rfl, _, F, G, gP _⟩
    | false =>
      refine RW_lam (v := refD "cell") (s1 := s6 ++ refQ1) (fun f => asked_ref1 A hA (by
        rw [dk_meth (x := "write") (f := l_Disk_write_2 A) (ma := mCons (mVar 5) (mCons (mVar 8) mNil)) (i := 1) (ds := [v5, v8]) t2.dk (by decide) rfl rfl, write_no t2.dk t2.ok ht6 (by rw [← hisc, hi])])) ?_
      rw [RW_tup, RW_cons, RW_C, RW_cons, RW_ifE, RW_asT, RW_var]
      refine ⟨_, rfl, false, rfl, ?_⟩
      rw [if_neg (by decide), RW_C, RW_nil]
      refine ⟨z2, ?_⟩
      rw [gEq_ref (by decide +kernel), RW_of_some]
      exact ⟨rfl, _, F, G, gP _⟩
  rw [if_neg hk0, SW_next, SW_seq, SW_if, RW_and, RW_asB, RW_bin, RW_var]
  refine ⟨_, rfl, ?_⟩
  rw [RW_C, gEq_int, RW_of_some]
  refine ⟨_, rfl, ?_⟩
  have cell : ∀ {x : Str} {f : MF} {Q : D → Sto → Prop}, (x ≠ "kept_lying" ∧ x ≠ "kept_waiting" ∧ x ≠ "kept_power" ∧ x ≠ "kept_reached") → f [.loc d, v5] s6 = .exc ⟨A "NoCell", none⟩ s6 → (∀ s', Pair A n b m s0 s' d a S F G → Q (.bl true) s') →
      ∀ {v9 v10 v11 : Option D}, RW (mBin gEq (mLam (l_law_asked_3 A) (mMeth (A "Disk") x f (mVar 1) (mCons (mVar 5) mNil))) (mTup (mCons (mC (.str "refused")) (mCons (mC (.str "cell")) mNil))) (env12 d a (some (.int (n : Int))) (some (.loc m4)) (some v5) (some (.bl isc)) (some (.loc m7)) (some v8) v9 v10 v11) s6) Q := by
    intro x f Q hx hf hQ v9 v10 v11
    rw [RW_bin]
    refine RW_lam (v := refD "cell") (s1 := s6 ++ refQ1) (fun f => asked_ref1 A hA (by
      rw [dk_meth (ma := mCons (mVar 5) mNil) (i := 1) (ds := [v5]) t2.dk hx rfl rfl, hf])) ?_
    rw [RW_tup, RW_cons, RW_C, RW_cons, RW_C, RW_nil]
    refine ⟨z2, ?_⟩
    rw [gEq_ref (by decide +kernel), RW_of_some]
    exact hQ _ (gP _)
  have wk : ∀ (x : Bool) {Q : Bool → Sto → Prop}, Q (x && !isc) s6 → (if x = true then RW ((mNot (asT (mVar 6)) : MT) (env12 d a (some (.int (n : Int))) (some (.loc m4)) (some v5) (some (.bl isc)) (some (.loc m7)) (some v8) (some (.int kd)) none none) s6) Q else Q false s6) := by
    intro x Q q
    cases x with
    | false => exact q
    | true =>
      rw [if_pos rfl, RW_not, RW_asT, RW_var]
      exact ⟨_, rfl, isc, rfl, by simpa using q⟩
  refine wk _ ?_
  by_cases hk1 : (decide (kd = 1) && !isc) = true
  · rw [if_pos hk1, SW_ret]
    have hi : isc = false := by simp at hk1; exact hk1.2
    exact cell (by decide) (read_no t2.dk t2.ok ht6 (by rw [← hisc, hi])) fun s' p => ⟨rfl, _, F, G, p⟩
  rw [if_neg hk1, SW_next, SW_seq, SW_if, RW_and, RW_asB, RW_bin, RW_var]
  refine ⟨_, rfl, ?_⟩
  rw [RW_C, gEq_int, RW_of_some]
  refine ⟨_, rfl, ?_⟩
  refine wk _ ?_
  by_cases hk2 : (decide (kd = 2) && !isc) = true
  · rw [if_pos hk2, SW_ret]
    have hi : isc = false := by simp at hk2; exact hk2.2
    exact cell (by decide) (lying_no t2.dk t2.ok ht6 (by rw [← hisc, hi])) fun s' p => ⟨rfl, _, F, G, p⟩
  rw [if_neg hk2, SW_next, SW_seq, SW_if, RW_asB, RW_bin, RW_var]
  refine ⟨_, rfl, ?_⟩
  rw [RW_C, gEq_int, RW_of_some]
  refine ⟨_, rfl, ?_⟩
  by_cases hk3 : decide (kd = 3) = true
  · rw [if_pos hk3, SW_seq]
    refine SW.midr (fun r s7 => (∃ v10, r = env12 d a (some (.int (n : Int))) (some (.loc m4)) (some v5) (some (.bl isc)) (some (.loc m7)) (some v8) (some (.int kd)) (some v10) none ∧ OdV s7 v10 ∧ v10 ≠ .non ∧ inR 0 1000000 v10 = false) ∧ Pair A n b m s0 s7 d a S F G) ?_ ?_
    · have hle := u6.bas.le
      have hp6 : ∀ s, gPow (.int 10) (.int 6) s = some (.int 1000000, s) := fun s => gPow_int (by decide)
      rw [SW_asg, RW_call, RW_cons, RW_var]
      refine ⟨_, rfl, ?_⟩
      rw [RW_cons, RW_new, RW_lst, RW_cons, RW_neg, RW_C]
      refine ⟨1, rfl, ?_⟩
      rw [RW_cons, RW_bin, RW_bin, RW_C, RW_C, hp6, RW_of_some, RW_C, gAdd_int, RW_of_some, RW_cons, RW_C, RW_cons, RW_C, RW_cons, RW_tup, RW_cons, RW_C, RW_nil]
      refine ⟨z1, ?_⟩
      rw [RW_cons, RW_new, RW_lst, RW_cons, RW_C, RW_nil]
      refine ⟨z1, ?_⟩
      rw [RW_cons, RW_bin, RW_C, RW_C, gbig, RW_of_some, RW_cons, RW_call, RW_cons, RW_var]
      refine ⟨_, rfl, ?_⟩
      rw [RW_nil]
      have p1 := u6.push (q := [Ob.lst [D.non]]) h3
      have m1 : (s6 ++ [Ob.lst [D.non]])[s6.length]? = some (.lst [.non]) := last_of
      refine (nested_spec A p1.bas.hs).imp fun v s7 ⟨⟨y, hy⟩, h7, x7⟩ => ?_
      subst hy
      rw [RW_nil]
      refine ⟨z8, ?_⟩
      rw [RW_nil]
      have hl7 := x7.1
      simp only [List.length_append, List.length_singleton] at hl7
      have m2 : s7[s6.length]? = some (.lst [.non]) := by rw [x7.2 _ (by omega) (by simp)]; exact m1
      have p7 := (p1.ext h3 x7 h7).push (q := [Ob.lst [D.int (-1), D.int (1000000 + 1), D.bl true, D.str "0", D.tup [D.int 0], D.loc s6.length, D.int big, D.tup [y]]]) h3
      refine (any_spec A (xs := [D.int (-1), D.int (1000000 + 1), D.bl true, D.str "0", D.tup [D.int 0], D.loc s6.length, D.int big, D.tup [y]]) p7.bas.hs (.inr ⟨s7.length, by omega, rfl, last_of⟩) (by simp) (by simp)).imp fun v s8 ⟨hv, h8, f8⟩ => ?_
      rw [RW_gName]
      refine ⟨⟨v, rfl, ?_⟩, p7.ext h3 f8.ext h8⟩
      simp only [List.mem_cons, List.not_mem_nil, or_false] at hv
      rcases hv with rfl | rfl | rfl | rfl | rfl | rfl | rfl | rfl
      · exact ⟨.int, by simp, by simp [inR]⟩
      · exact ⟨.int, by simp, by simp [inR]⟩
      · exact ⟨.bl, by simp, by simp [inR]⟩
      · exact ⟨.str, by simp, by simp [inR]⟩
      · exact ⟨.tup, by simp, by simp [inR]⟩
      · exact ⟨(OdV.lst (get_push m2) (by omega)).ext f8.ext, by simp, by simp [inR]⟩
      · exact ⟨.int, by simp, by simp [inR]; omega⟩
      · exact ⟨.tup, by simp, by simp [inR]⟩
    rintro r s7 ⟨⟨v10, rfl, o10, n10, r10⟩, u7⟩
    obtain ⟨t10, ht10⟩ := o10.ty
    rw [SW_ret, RW_bin]
    refine RW_lam (v := refD "number") (s1 := s7 ++ refQ5) (fun f => asked_ref5 A hA (by
      rw [dk_meth (x := "power") (f := l_Disk_power_2 A) (ma := mCons (mVar 10) mNil) (i := 1) (ds := [v10]) u7.two.dk (by decide) rfl rfl, power_no ht10 n10 r10])) ?_
    rw [RW_tup, RW_cons, RW_C, RW_cons, RW_C, RW_nil]
    refine ⟨z2, ?_⟩
    rw [gEq_ref (by decide +kernel), RW_of_some]
    exact ⟨rfl, _, F, G, u7.push h3⟩
  rw [if_neg hk3, SW_next, SW_seq, SW_asg, RW_tup, RW_cons, RW_C, RW_cons, RW_C, RW_nil]
  refine ⟨z2, ?_⟩
  rw [RW_gName]
  cases hi : isc with
  | false =>
    rw [SW_seq, SW_if, RW_asT, RW_var]
    refine ⟨_, rfl, false, rfl, ?_⟩
    rw [if_neg (by decide), SW_next, SW_ret, RW_bin]
    refine RW_lam (v := refD "cell") (s1 := s6 ++ refQ1) (fun f => asked_ref1 A hA (by
      rw [dk_meth (x := "reach") (f := l_Disk_reach_3 A) (ma := mCons (mVar 5) mNil) (i := 1) (ds := [v5]) t2.dk (by decide) rfl rfl, reach_no t2.dk t2.ok ht6 (by rw [← hisc, hi])])) ?_
    rw [RW_var]
    refine ⟨_, rfl, ?_⟩
    rw [gEq_ref (by decide +kernel), RW_of_some]
    exact ⟨rfl, _, F, G, gP _⟩
  | true =>
    obtain ⟨c, hc, rfl⟩ := hc5 (by rw [← hisc, hi])
    rw [SW_seq, SW_if, RW_asT, RW_var]
    refine ⟨_, rfl, true, rfl, ?_⟩
    rw [if_pos rfl, SW_seq, SW_asg, RW_tup, RW_cons, RW_C, RW_cons, RW_C, RW_nil]
    refine ⟨z2, ?_⟩
    rw [RW_gName, SW_if, RW_asB, RW_bin, RW_bin, RW_bin, RW_var]
    refine ⟨_, rfl, ?_⟩
    obtain ⟨l, w, p, hG, gg⟩ := id t2.ac
    obtain ⟨e1, e2, e3, e4⟩ := gIx_ac gg.ob
    have hcw : c < S.wt.length := by rw [t2.ok.wt]; exact hc
    obtain ⟨x, hx⟩ : ∃ x, p[c]? = some x := ⟨_, List.getElem?_eq_getElem (by rw [gg.len]; exact hcw)⟩
    obtain ⟨z, hz, hsx⟩ := gg.ps c x hx
    have hzT := t2.ok.tw z (List.mem_of_getElem? hz)
    have hpc : atI (p.map D.loc) (c : Int) = some (.loc x) := atI_in (by omega) (by rw [Int.toNat_natCast, List.getElem?_map, hx]; rfl)
    have hzw : S.wt.getD c [] = z := getD_of hz
    rw [RW_C, e2, RW_of_some, RW_var]
    refine ⟨_, rfl, ?_⟩
    rw [gIx_lst gg.wt, hpc]
    simp only [Option.map_some, RW_of_some]
    rw [RW_new, RW_lst, RW_nil]
    refine ⟨by show 0 ≤ sizeLine; omega, ?_⟩
    rw [gNe_nil (get_push hsx) last_of hzT.1, RW_of_some]
    refine ⟨_, rfl, ?_⟩
    have p3 := u6.push (q := [Ob.lst ([] : List D)]) h3
    generalize (s6 ++ [Ob.lst ([] : List D)]) = s7 at *
    have t3 := p3.two
    by_cases hzn : z = []
    · rw [if_neg (by simp [hzn]), SW_next, SW_ret, RW_bin]
      have hz0 : S.wt.getD c [] = [] := by rw [hzw]; exact hzn
      refine RW_lam (v := refD "nothing") (s1 := s7 ++ refQ3) (fun f => asked_ref3 A hA (by
        rw [dk_meth (x := "reach") (f := l_Disk_reach_3 A) (ma := mCons (mVar 5) mNil) (i := 1) (ds := [.int (c : Int)]) t3.dk (by decide) rfl rfl, (up_reach A).exc (reach_none2 A t3.dk t3.ok hc hz0)])) ?_
      rw [RW_var]
      refine ⟨_, rfl, ?_⟩
      rw [gEq_ref (by decide +kernel), RW_of_some]
      exact ⟨rfl, _, F, G, p3.push h3⟩
    · rw [if_pos (by simp [hzn])]
      have hzne : S.wt.getD c [] ≠ [] := by rw [hzw]; exact hzn
      obtain ⟨t, rs, hwc⟩ := getD_cons hzne
      rw [SW_asg, RW_ifE, RW_asT, RW_call, RW_cons, RW_var]
      refine ⟨_, rfl, ?_⟩
      rw [RW_cons, RW_var]
      refine ⟨_, rfl, ?_⟩
      rw [RW_nil]
      by_cases hp : S.pw = some 0
      · rw [lreached_stop A t3.ac hp, RW_ok]
        refine ⟨false, rfl, ?_⟩
        rw [if_neg (by decide), RW_tup, RW_cons, RW_C, RW_cons, RW_C, RW_nil]
        refine ⟨z2, ?_⟩
        rw [RW_gName, SW_ret, RW_bin]
        refine RW_lam (v := refD "stopped") (s1 := s7 ++ refQ4) (fun f => asked_ref4 A hA (by
          rw [dk_meth (x := "reach") (f := l_Disk_reach_3 A) (ma := mCons (mVar 5) mNil) (i := 1) (ds := [.int (c : Int)]) t3.dk (by decide) rfl rfl, (up_reach A).exc (reach_stop2 A t3.dk t3.ok hc hzne hp)])) ?_
        rw [RW_var]
        refine ⟨_, rfl, ?_⟩
        rw [gEq_ref (by decide +kernel), RW_of_some]
        exact ⟨rfl, _, F, G, p3.push h3⟩
      · refine (lreached_ok A t3.ac t3.ok hp hwc).imp fun v s8 ⟨e, a4, k4⟩ => ?_
        subst e
        have d4 := t3.dk.keep k4 t3.dj
        have b4 := p3.bas.kp k4 t3.gb h3
        refine ⟨true, rfl, ?_⟩
        rw [if_pos rfl, RW_tup, RW_cons, RW_C, RW_cons, RW_C, RW_nil]
        refine ⟨z2, ?_⟩
        obtain ⟨s9, F5, e5, g5, k5, f5⟩ := reach_ok2 A d4 t3.ok hc hzne hp
        have a5 := a4.keep k5 (sym_dj t3.dj)
        have b5 := b4.kp k5 t3.fb h3
        have dj5 := sep_new f5 t3.dj a4.lt
        rw [RW_gName, SW_ret, RW_bin]
        refine RW_lam (v := toldP) (s1 := s9) (fun f => asked_told3 A (by
          rw [dk_meth (x := "reach") (f := l_Disk_reach_3 A) (ma := mCons (mVar 5) mNil) (i := 1) (ds := [.int (c : Int)]) d4 (by decide) rfl rfl, (up_reach A).ok e5])) ?_
        rw [RW_var]
        refine ⟨_, rfl, ?_⟩
        rw [gEq_told, RW_of_some]
        exact ⟨rfl, _, F5, G, ⟨⟨g5, a5, t3.ok.one hp hzne, dj5, fun x hx => (f5 x hx).elim (t3.fb x) fun q => by have := b4.le; omega, t3.gb⟩, b5, fun c' => Nat.le_trans one_wl (p3.few c')⟩⟩
end DL
end
/-! ### Lawt -/
section
set_option linter.all false
set_option maxRecDepth 100000
set_option maxHeartbeats 4000000
namespace M48
open PySem PySem.Spec L2
open PyProof.Rows hiding St
open DL
theorem callS {f : MF} {v : V} {r : DL.Env} {s : Sto} {Q : D → Sto → Prop} : RW (mCallS f (some (.con v) :: r) s) Q ↔ RW (f [.con v] s) Q := Iff.rfl
abbrev envL (v0 v2 v3 v4 v5 v6 v7 v8 v9 : Option D) : DL.Env := [v0, some (.loc 2), v2, v3, v4, v5, v6, v7, v8, v9]
theorem gIx_t0 {s : Sto} {a b : D} : gIx (.tup [a, b]) (.int 0) s = some (a, s) := by simp [gIx, ixN]
theorem law_true (A : Str → Addr) (ns : List Int) (h : ns.length ≤ 63) (a : Addr)
    (q0 : A "BadDisk" ≠ A "NoCell") (q1 : A "BadDisk" ≠ A "NoThing") (q2 : A "BadDisk" ≠ A "NothingWaits") (q3 : A "BadDisk" ≠ A "Stopped") (q4 : A "BadDisk" ≠ A "NoNumber") (q5 : A "NoCell" ≠ A "BadDisk") (q6 : A "NoCell" ≠ A "NoThing") (q7 : A "NoCell" ≠ A "NothingWaits") (q8 : A "NoCell" ≠ A "Stopped") (q9 : A "NoCell" ≠ A "NoNumber") (q10 : A "NoThing" ≠ A "BadDisk") (q11 : A "NoThing" ≠ A "NoCell") (q12 : A "NoThing" ≠ A "NothingWaits") (q13 : A "NoThing" ≠ A "Stopped") (q14 : A "NoThing" ≠ A "NoNumber") (q15 : A "NothingWaits" ≠ A "BadDisk") (q16 : A "NothingWaits" ≠ A "NoCell") (q17 : A "NothingWaits" ≠ A "NoThing") (q18 : A "NothingWaits" ≠ A "Stopped") (q19 : A "NothingWaits" ≠ A "NoNumber") (q20 : A "Stopped" ≠ A "BadDisk") (q21 : A "Stopped" ≠ A "NoCell") (q22 : A "Stopped" ≠ A "NoThing") (q23 : A "Stopped" ≠ A "NothingWaits") (q24 : A "Stopped" ≠ A "NoNumber") (q25 : A "NoNumber" ≠ A "BadDisk") (q26 : A "NoNumber" ≠ A "NoCell") (q27 : A "NoNumber" ≠ A "NoThing") (q28 : A "NoNumber" ≠ A "NothingWaits") (q29 : A "NoNumber" ≠ A "Stopped") :
    ∃ s, m_law A ns [.con (.ref a)] [] = .ok (.bl true) s := by
  suffices hh : RW (m_law A ns [.con (.ref a)] []) fun v s => v = .bl true by
    obtain ⟨v, s, e, rfl⟩ := hh.get
    exact ⟨s, e⟩
  have hA : NeB A := ⟨q0, q1, q2, q3, q4, q5, q6, q7, q8, q9, q10, q11, q12, q13, q14, q15, q16, q17, q18, q19, q20, q21, q22, q23, q24, q25, q26, q27, q28, q29⟩
  have z1 : 1 ≤ sizeLine := small24 (by omega)
  have z14 : 14 ≤ sizeLine := small24 (by omega)
  have z2 : 2 ≤ sizeLine := small24 (by omega)
  unfold m_law
  rw [RW_def]
  refine ⟨rfl, ?_⟩
  rw [SW_seq]
  refine SW.midr (fun r s => (∃ v0, r = envL v0 none none none none none none none none) ∧ HS s) ?_ ?_
  · rw [SW_asg]
    show RW (mCallS (l_law_hand A ns) (some (.con (.ref a)) :: _) _) _
    rw [callS]
    exact (hand_spec A h).imp fun v s ⟨e, h0, _⟩ => ⟨⟨some (.con (.ref a)), by rw [e]; rfl⟩, h0⟩
  rintro r s ⟨⟨v0, rfl⟩, h0⟩
  rw [SW_seq]
  refine SW.midr (fun _ _ => True) ?_ (fun r s1 _ => by rw [SW_ret, RW_C])
  rw [SW_for, RW_rg1, RW_C]
  refine ⟨3, rfl, by omega, by omega, ?_⟩
  refine SW_forGo (fun i r s1 => (∃ v2 v3 v4 v5 v6 v7 v8 v9, r = envL v0 v2 v3 v4 v5 v6 v7 v8 v9) ∧ HS s1) ⟨⟨_, _, _, _, _, _, _, _, rfl⟩, h0⟩ (by intros; rfl) ?_ fun _ _ _ => trivial
  rintro i dd r s1 hdd ⟨⟨v2, v3, v4, v5, v6, v7, v8, v9, rfl⟩, h1⟩
  have h13 := h1.len
  rw [RW_gName, SW_seq]
  show SW (mAsg _ _ (envL v0 (some dd) v3 v4 v5 v6 v7 v8 v9) _) _ _ _ _
  obtain ⟨big, hbig⟩ : ∃ x : Int, x = 10 ^ 39 := ⟨_, rfl⟩
  have hbg : 1000000 < big := by rw [hbig]; decide
  have gbig : ∀ s, gPow (.int 10) (.int 39) s = some (.int big, s) := fun s => by rw [hbig]; exact gPow_int (by decide)
  refine SW.midr (fun r s2 => (∃ x, r = envL v0 (some dd) (some x) v4 v5 v6 v7 v8 v9 ∧ OdV s2 x) ∧ HS s2) ?_ ?_
  · rw [SW_asg, RW_call, RW_cons, RW_var]
    refine ⟨_, rfl, ?_⟩
    rw [RW_cons, RW_new, RW_lst, RW_cons, RW_C, RW_cons, RW_C, RW_cons, RW_C, RW_cons, RW_C, RW_cons, RW_C, RW_cons, RW_C, RW_cons, RW_neg, RW_C]
    refine ⟨1, rfl, ?_⟩
    rw [RW_cons, RW_C, RW_cons, RW_C, RW_cons, RW_C, RW_cons, RW_tup, RW_cons, RW_C, RW_nil]
    refine ⟨z1, ?_⟩
    rw [RW_cons, RW_new, RW_lst, RW_cons, RW_C, RW_nil]
    refine ⟨z1, ?_⟩
    rw [RW_cons, RW_bin, RW_C, RW_C, gbig, RW_of_some, RW_cons, RW_call, RW_cons, RW_var]
    refine ⟨_, rfl, ?_⟩
    rw [RW_nil]
    have m1 : (s1 ++ [Ob.lst [D.int 1]])[s1.length]? = some (.lst [.int 1]) := last_of
    refine (nested_spec A h1.push).imp fun v s2 ⟨⟨y, hy⟩, h2, x2⟩ => ?_
    subst hy
    rw [RW_nil]
    refine ⟨z14, ?_⟩
    rw [RW_nil]
    have hl2 := x2.1
    simp only [List.length_append, List.length_singleton] at hl2
    have m2 : s2[s1.length]? = some (.lst [.int 1]) := by rw [x2.2 _ (by omega) (by simp)]; exact m1
    refine (any_spec A (xs := [D.int 1, .int 2, .int 5, .int 2000, .int 0, .int 2001, .int (-1), .bl true, .non, .str "1", .tup [.int 1], .loc s1.length, .int big, .tup [y]]) h2.push (.inr ⟨s2.length, by omega, rfl, last_of⟩) (by simp) (by simp)).imp fun v s3 ⟨hv, h3, f3⟩ => ?_
    rw [RW_gName]
    refine ⟨⟨v, rfl, ?_⟩, h3⟩
    simp only [List.mem_cons, List.not_mem_nil, or_false] at hv
    rcases hv with rfl | rfl | rfl | rfl | rfl | rfl | rfl | rfl | rfl | rfl | rfl | rfl | rfl | rfl
    all_goals first | exact .int | exact .bl | exact .non | exact .str | exact .tup | exact (OdV.lst (get_push m2) (by omega)).ext f3.ext
  rintro r s2 ⟨⟨x, rfl, ox⟩, h2⟩
  obtain ⟨t, ht⟩ := ox.ty
  have h23 := h2.len
  rw [SW_seq]
  refine SW.midr (fun r s3 => r = envL v0 (some dd) (some x) (some (.str (if DL.inR 1 2000 x = true then "told" else "refused"))) v5 v6 v7 v8 v9 ∧ s2 = s3) ?_ ?_
  · rw [SW_asg, RW_ifE, RW_and, RW_asT, RW_call, RW_cons, RW_var]
    refine ⟨_, rfl, ?_⟩
    rw [RW_cons, RW_C, RW_nil, is_value_spec ht, RW_ok]
    refine ⟨_, rfl, ?_⟩
    by_cases hr : DL.inR 0 (2001 - 1) x = true
    · rw [if_pos hr, RW_asB, RW_bin, RW_var]
      refine ⟨_, rfl, ?_⟩
      cases x with
      | int j =>
        rw [RW_C, show gGt (.int j) (.int 0) s2 = some (.bl (decide (0 < j)), s2) from rfl, RW_of_some]
        refine ⟨_, rfl, ?_⟩
        simp only [DL.inR, Bool.and_eq_true, decide_eq_true_eq] at hr
        by_cases hj : 0 < j
        · rw [if_pos (decide_eq_true hj), RW_C, RW_gName]
          refine ⟨?_, rfl⟩
          rw [if_pos (by simp only [DL.inR, Bool.and_eq_true, decide_eq_true_eq]; omega)]
          rfl
        · rw [if_neg (by simpa using hj), RW_C, RW_gName]
          refine ⟨?_, rfl⟩
          rw [if_neg (by simp only [DL.inR, Bool.and_eq_true, decide_eq_true_eq]; omega)]
          rfl
      | _ => simp [DL.inR] at hr
    · rw [if_neg hr, if_neg (by decide), RW_C, RW_gName]
      refine ⟨?_, rfl⟩
      rw [if_neg (fun e => hr (by
        cases x with
        | int j =>
          simp only [DL.inR, Bool.and_eq_true, decide_eq_true_eq] at e ⊢
          omega
        | _ => simp [DL.inR] at e))]
      rfl
  rintro r s3 ⟨rfl, rfl⟩
  rw [SW_seq]
  refine SW.midr (fun r s3 => (∃ d5, r = envL v0 (some dd) (some x) (some (.str (if DL.inR 1 2000 x = true then "told" else "refused"))) (some (.tup [.str (if DL.inR 1 2000 x = true then "told" else "refused"), d5])) v6 v7 v8 v9 ∧ (DL.inR 1 2000 x = false → d5 = .str "disk")) ∧ HS s3) ?_ ?_
  · rw [SW_asg]
    cases hr : DL.inR 1 2000 x with
    | true =>
      obtain ⟨k, rfl, hk⟩ : ∃ k : Nat, x = .int (k : Int) ∧ 1 ≤ k ∧ k ≤ 2000 := by
        cases x with
        | int j =>
          simp only [DL.inR, Bool.and_eq_true, decide_eq_true_eq] at hr
          obtain ⟨k, rfl⟩ := Int.eq_ofNat_of_zero_le (show 0 ≤ j by omega)
          exact ⟨k, rfl, by omega, by omega⟩
        | _ => simp [DL.inR] at hr
      obtain ⟨v, s3, e, rfl, F, g3, k3, f3⟩ := (init_spec A (s := s2) hk.1 hk.2).get
      have e2 := (up_init A).ok e
      refine RW_lam (v := .tup [.str "told", .loc s2.length]) (s1 := s3) (fun f => asked_told3 A (by
        show mMake (A "Disk") (l_Disk_init_2 A) (mCons (mVar 3) mNil) _ _ = _
        simp [mMake, mCons, mNil, mVar, e2])) ?_
      rw [RW_gName]
      exact ⟨⟨_, rfl, fun e => by cases e⟩, k3.hs h2 (by simp) (by simp)⟩
    | false =>
      refine RW_lam (v := .tup [.str "refused", .str "disk"]) (s1 := s2 ++ [Ob.ins (A "Disk") []] ++ refQ0) (fun f => asked_ref0 A hA (by
        show mMake (A "Disk") (l_Disk_init_2 A) (mCons (mVar 3) mNil) _ _ = _
        have e2 := init_no (A := A) (s := s2 ++ [Ob.ins (A "Disk") []]) (x := .loc s2.length) (v := x) (ox.ext (Ext.refl.push)).ty.choose_spec hr
        simp [mMake, mCons, mNil, mVar, e2])) ?_
      rw [RW_gName]
      exact ⟨⟨_, rfl, fun _ => rfl⟩, h2.push.push⟩
  rintro r s3 ⟨⟨d5, rfl, hd5⟩, h3⟩
  rw [SW_seq]
  refine SW.midr (fun r s4 => r = envL v0 (some dd) (some x) (some (.str (if DL.inR 1 2000 x = true then "told" else "refused"))) (some (.tup [.str (if DL.inR 1 2000 x = true then "told" else "refused"), d5])) v6 v7 v8 v9 ∧ HS s4) ?_ ?_
  · rw [SW_if, RW_or, RW_asB, RW_bin, RW_bin, RW_var]
    refine ⟨_, rfl, ?_⟩
    rw [RW_C, gIx_t0, RW_of_some, RW_var]
    refine ⟨_, rfl, ?_⟩
    rw [show ∀ w : Str, gNe (.str w) (.str w) s3 = some (.bl false, s3) from fun w => by simp [gNe, eqB], RW_of_some]
    refine ⟨_, rfl, ?_⟩
    rw [if_neg (by decide), RW_and, RW_asB, RW_bin, RW_var]
    refine ⟨_, rfl, ?_⟩
    rw [RW_C]
    cases hr : DL.inR 1 2000 x with
    | true =>
      rw [if_pos rfl, show gEq (.str "told") (.str "refused") s3 = some (.bl false, s3) from by simp only [gEq, eqB]; rfl, RW_of_some]
      refine ⟨_, rfl, ?_⟩
      rw [if_neg (by decide), if_neg (by decide), SW_next]
      exact ⟨rfl, h3⟩
    | false =>
      rw [hd5 hr]
      rw [if_neg (by decide), show gEq (.str "refused") (.str "refused") s3 = some (.bl true, s3) from by simp only [gEq, eqB]; rfl, RW_of_some]
      refine ⟨_, rfl, ?_⟩
      rw [if_pos rfl, RW_asB, RW_bin, RW_var]
      refine ⟨_, rfl, ?_⟩
      rw [RW_tup, RW_cons, RW_C, RW_cons, RW_C, RW_nil]
      refine ⟨z2, ?_⟩
      have g := gEq_ref (s := s3) (w := "disk") (by decide +kernel)
      have g2 : gNe (refD "disk") (refD "disk") s3 = some (.bl false, s3) := by
        simp only [gEq, Option.map_eq_some_iff] at g
        obtain ⟨b, hb, hq⟩ := g
        cases hq
        simp only [gNe, hb]
        rfl
      rw [g2, RW_of_some]
      refine ⟨_, rfl, ?_⟩
      rw [if_neg (by decide), SW_next]
      exact ⟨rfl, h3⟩
  rintro r s4 ⟨rfl, h4⟩
  clear hd5 h3 h2 ox ht h1
  generalize (some (D.str (if DL.inR 1 2000 x = true then "told" else "refused"))) = v4'
  generalize (some (D.tup [.str (if DL.inR 1 2000 x = true then "told" else "refused"), d5])) = v5'
  rw [SW_seq]
  refine SW.midr (fun r s5 => (∃ n : Nat, 1 ≤ n ∧ n < 64 ∧ r = envL v0 (some dd) (some x) v4' v5' (some (.int (n : Int))) v7 v8 v9) ∧ HS s5) ?_ ?_
  · rw [SW_asg, RW_bin, RW_C, RW_call, RW_cons, RW_var]
    refine ⟨_, rfl, ?_⟩
    rw [RW_cons, RW_C, RW_nil]
    refine (draw_spec A (many := 4) (by omega) h4).imp fun v1 s5 ⟨z, e, z0, z1, h5, f5⟩ => ?_
    subst e
    obtain ⟨j, rfl⟩ := Int.eq_ofNat_of_zero_le z0
    rw [gAdd_int, RW_of_some, RW_gName]
    exact ⟨⟨1 + j, by omega, by omega, rfl⟩, h5⟩
  rintro r s ⟨⟨n, hn0, hn, rfl⟩, h0⟩
  have h3 := h0.len
  have B0 : Bas s.length s s := ⟨Nat.le_refl _, h0, fun _ _ _ => rfl⟩
  rw [SW_seq]
  refine SW.midr (fun r s1 => ∃ d a F G S, r = envL v0 (some dd) (some x) v4' v5' (some (.int (n : Int))) (some (.loc d)) (some (.loc a)) v9 ∧ Pair A n s.length 0 s s1 d a S F G) ?_ ?_
  · rw [SW_par, RW_cons, RW_make, RW_cons, RW_var]
    refine ⟨_, rfl, ?_⟩
    rw [RW_nil]
    refine ((init_spec A (n := n) (by omega) (by omega)).up (up_init A _ _)).imp fun v s1 ⟨e, F1, g1, k1, f1⟩ => ?_
    refine ⟨e, ?_⟩
    rw [RW_cons, RW_call, RW_cons, RW_var]
    refine ⟨_, rfl, ?_⟩
    rw [RW_nil]
    refine (account_spec A (n := n) (by omega) (by omega)).imp fun v s2 ⟨a, G, e, ga, k2, f2⟩ => ?_
    subst e
    rw [RW_nil]
    exact ⟨_, _, rfl, s.length, a, F1, G, _, rfl, Pair.new (by omega) (by omega) h3 B0 g1 k1 f1 ga k2 f2⟩
  rintro r s1 ⟨d, a, F, G, S, rfl, u⟩
  rw [SW_seq]
  refine SW.midr (fun r s2 => (∃ v9, r = envL v0 (some dd) (some x) v4' v5' (some (.int (n : Int))) (some (.loc d)) (some (.loc a)) v9) ∧ ∃ S2 F2 G2, Pair A n s.length 10 s s2 d a S2 F2 G2) ?_ ?_
  · rw [SW_for, RW_rg1, RW_call, RW_cons, RW_var]
    refine ⟨_, rfl, ?_⟩
    rw [RW_cons, RW_C, RW_nil]
    refine (draw_spec A (many := 8) (by omega) u.bas.hs).imp fun v2 s2 ⟨z, e, z0, z1, h2, f2⟩ => ?_
    subst e
    obtain ⟨j, rfl⟩ := Int.eq_ofNat_of_zero_le z0
    refine ⟨_, rfl, by omega, by omega, ?_⟩
    rw [show ((j : Int)).toNat = j from by omega]
    refine SW_forGo (fun i r s3 => (∃ v9, r = envL v0 (some dd) (some x) v4' v5' (some (.int (n : Int))) (some (.loc d)) (some (.loc a)) v9) ∧ ∃ S3 F3 G3, Pair A n s.length i s s3 d a S3 F3 G3)
      ⟨⟨_, rfl⟩, _, _, _, u.ext h3 f2.ext h2⟩ (by intros; rfl) ?_ ?_
    · rintro i dd r s3 hdd ⟨⟨v9, rfl⟩, S3, F3, G3, u3⟩
      have hi : i < 8 := by
        have := (List.getElem?_eq_some_iff.mp hdd).1
        simp at this
        omega
      rw [RW_gName, SW_if, RW_not, RW_asT, RW_call, RW_cons, RW_var]
      refine ⟨_, rfl, ?_⟩
      rw [RW_cons, RW_var]
      refine ⟨_, rfl, ?_⟩
      rw [RW_cons, RW_var]
      refine ⟨_, rfl, ?_⟩
      rw [RW_nil]
      refine (ldeed2_spec hA h3 u3 hn (by omega)).imp fun v s4 ⟨e, S4, F4, G4, u4⟩ => ?_
      subst e
      refine ⟨true, rfl, ?_⟩
      simp only [Bool.not_true, Bool.false_eq_true, if_false]
      rw [SW_next]
      exact ⟨⟨_, rfl⟩, S4, F4, G4, u4⟩
    · rintro r s3 ⟨q, S3, F3, G3, u3⟩
      exact ⟨q, S3, F3, G3, u3.up (by simp; omega)⟩
  rintro r s2 ⟨⟨v9', rfl⟩, S2, F2, G2, u2⟩
  rw [SW_for, RW_rg1, RW_C]
  refine ⟨6, rfl, by omega, by omega, ?_⟩
  refine SW_forGo (fun i r s3 => (∃ v9, r = envL v0 (some dd) (some x) v4' v5' (some (.int (n : Int))) (some (.loc d)) (some (.loc a)) v9) ∧ ∃ S3 F3 G3, Pair A n s.length 10 s s3 d a S3 F3 G3)
    ⟨⟨_, rfl⟩, _, _, _, u2⟩ (by intros; rfl) ?_ ?_
  · rintro i dd r s3 hdd ⟨⟨v9, rfl⟩, S3, F3, G3, u3⟩
    rw [RW_gName, SW_if, RW_or, RW_not, RW_asT, RW_call, RW_cons, RW_var]
    refine ⟨_, rfl, ?_⟩
    rw [RW_cons, RW_var]
    refine ⟨_, rfl, ?_⟩
    rw [RW_cons, RW_var]
    refine ⟨_, rfl, ?_⟩
    rw [RW_nil]
    refine (lodd_right hA h3 u3 hn).imp fun v s4 ⟨e, S4, F4, G4, u4⟩ => ?_
    subst e
    refine ⟨true, rfl, ?_⟩
    simp only [Bool.not_true, Bool.false_eq_true, if_false]
    rw [RW_not, RW_asT, RW_call, RW_cons, RW_var]
    refine ⟨_, rfl, ?_⟩
    rw [RW_cons, RW_var]
    refine ⟨_, rfl, ?_⟩
    rw [RW_nil]
    refine ((ldisk_is A u4.two.dk u4.two.ac u4.two.ok).up (up_disk_is A _ _)).imp fun v s5 ⟨e, k5⟩ => ?_
    subst e
    refine ⟨true, rfl, ?_⟩
    simp only [Bool.not_true, Bool.false_eq_true, if_false]
    rw [SW_next]
    exact ⟨⟨_, rfl⟩, S4, F4, G4, u4.two.keep k5 (fun _ _ => by simp) fun _ _ => by simp, u4.bas.kp k5 (by simp) h3, u4.few⟩
  · rintro r s3 ⟨⟨v9, rfl⟩, S3, F3, G3, u3⟩
    exact ⟨⟨_, _, _, _, _, _, _, _, rfl⟩, u3.bas.hs⟩
end M48
end
/-! ### End -/
set_option linter.all false
set_option maxRecDepth 100000
set_option maxHeartbeats 4000000
namespace M48
open PySem PySem.Spec L2
open PyProof.Rows hiding St
open DL
theorem all_mk {l : PySem.W.OpenLaw} {w : World} {K : PySem.W.Frag} {h : Heap} {mg : Str → Option Value} {C0 C1 C2 C3 C4 C5 C6 C7 f0 f1 f2 f3 f4 f5 f6 f7 f8 f9 f10 f11 f12 f13 f14 f15 f16 f17 f18 f19 f20 f21 f22 f23 f24 f25 f26 f27 f28 f29 f30 f31 fa fb : Addr} {od0 an0 : Option Addr} {sl0 : Array (Option Value)} {oc0 kV0 dc0 pm0 cd0 ct0 : Value} {od1 an1 : Option Addr} {sl1 : Array (Option Value)} {oc1 kV1 dc1 pm1 cd1 ct1 : Value} {od2 an2 : Option Addr} {sl2 : Array (Option Value)} {oc2 kV2 dc2 pm2 cd2 ct2 : Value} {od3 an3 : Option Addr} {sl3 : Array (Option Value)} {oc3 kV3 dc3 pm3 cd3 ct3 : Value} {od4 an4 : Option Addr} {sl4 : Array (Option Value)} {oc4 kV4 dc4 pm4 cd4 ct4 : Value} {od5 an5 : Option Addr} {sl5 : Array (Option Value)} {oc5 kV5 dc5 pm5 cd5 ct5 : Value} {od6 an6 : Option Addr} {sl6 : Array (Option Value)} {oc6 kV6 dc6 pm6 cd6 ct6 : Value} {od7 an7 : Option Addr} {sl7 : Array (Option Value)} {oc7 kV7 dc7 pm7 cd7 ct7 : Value} {od8 an8 : Option Addr} {sl8 : Array (Option Value)} {oc8 kV8 dc8 pm8 cd8 ct8 : Value} {od9 an9 : Option Addr} {sl9 : Array (Option Value)} {oc9 kV9 dc9 pm9 cd9 ct9 : Value} {od10 an10 : Option Addr} {sl10 : Array (Option Value)} {oc10 kV10 dc10 pm10 cd10 ct10 : Value} {od11 an11 : Option Addr} {sl11 : Array (Option Value)} {oc11 kV11 dc11 pm11 cd11 ct11 : Value} {od12 an12 : Option Addr} {sl12 : Array (Option Value)} {oc12 kV12 dc12 pm12 cd12 ct12 : Value} {od13 an13 : Option Addr} {sl13 : Array (Option Value)} {oc13 kV13 dc13 pm13 cd13 ct13 : Value} {od14 an14 : Option Addr} {sl14 : Array (Option Value)} {oc14 kV14 dc14 pm14 cd14 ct14 : Value} {od15 an15 : Option Addr} {sl15 : Array (Option Value)} {oc15 kV15 dc15 pm15 cd15 ct15 : Value} {od16 an16 : Option Addr} {sl16 : Array (Option Value)} {oc16 kV16 dc16 pm16 cd16 ct16 : Value} {od17 an17 : Option Addr} {sl17 : Array (Option Value)} {oc17 kV17 dc17 pm17 cd17 ct17 : Value} {od18 an18 : Option Addr} {sl18 : Array (Option Value)} {oc18 kV18 dc18 pm18 cd18 ct18 : Value} {od19 an19 : Option Addr} {sl19 : Array (Option Value)} {oc19 kV19 dc19 pm19 cd19 ct19 : Value} {od20 an20 : Option Addr} {sl20 : Array (Option Value)} {oc20 kV20 dc20 pm20 cd20 ct20 : Value} {od21 an21 : Option Addr} {sl21 : Array (Option Value)} {oc21 kV21 dc21 pm21 cd21 ct21 : Value} {od22 an22 : Option Addr} {sl22 : Array (Option Value)} {oc22 kV22 dc22 pm22 cd22 ct22 : Value} {od23 an23 : Option Addr} {sl23 : Array (Option Value)} {oc23 kV23 dc23 pm23 cd23 ct23 : Value} {od24 an24 : Option Addr} {sl24 : Array (Option Value)} {oc24 kV24 dc24 pm24 cd24 ct24 : Value} {od25 an25 : Option Addr} {sl25 : Array (Option Value)} {oc25 kV25 dc25 pm25 cd25 ct25 : Value} {od26 an26 : Option Addr} {sl26 : Array (Option Value)} {oc26 kV26 dc26 pm26 cd26 ct26 : Value} {od27 an27 : Option Addr} {sl27 : Array (Option Value)} {oc27 kV27 dc27 pm27 cd27 ct27 : Value} {od28 an28 : Option Addr} {sl28 : Array (Option Value)} {oc28 kV28 dc28 pm28 cd28 ct28 : Value} {od29 an29 : Option Addr} {sl29 : Array (Option Value)} {oc29 kV29 dc29 pm29 cd29 ct29 : Value} {od30 an30 : Option Addr} {sl30 : Array (Option Value)} {oc30 kV30 dc30 pm30 cd30 ct30 : Value} {od31 an31 : Option Addr} {sl31 : Array (Option Value)} {oc31 kV31 dc31 pm31 cd31 ct31 : Value} {od32 an32 : Option Addr} {sl32 : Array (Option Value)} {oc32 kV32 dc32 pm32 cd32 ct32 : Value} {t_MOST_CELLS : Tok} {t_MOST_NUMBER : Tok} {cc22 tt22 : Addr} {occ22 : Value} {odc22 : Option Addr} {vsc22 : Array Value} {slc22 : Array (Option Value)} {cc25 tt25 : Addr} {occ25 : Value} {odc25 : Option Addr} {vsc25 : Array Value} {slc25 : Array (Option Value)} {cc32 tt32 : Addr} {occ32 : Value} {odc32 : Option Addr} {vsc32 : Array Value} {slc32 : Array (Option Value)} (X : K.In h) (G : h.Ns mainGlobals mg) (hfa : mg "law" = some (.ref fa))
    (aCC0 : PySem.W.nsIn K mainGlobals "Disk" = some (some (.ref C0)))
    (aCC1 : PySem.W.nsIn K mainGlobals "NothingWaits" = some (some (.ref C1)))
    (aCC2 : PySem.W.nsIn K mainGlobals "NoNumber" = some (some (.ref C2)))
    (aCC3 : PySem.W.nsIn K mainGlobals "BadDisk" = some (some (.ref C3)))
    (aCC4 : PySem.W.nsIn K mainGlobals "Stopped" = some (some (.ref C4)))
    (aCC5 : PySem.W.nsIn K mainGlobals "KeepError" = some (some (.ref C5)))
    (aCC6 : PySem.W.nsIn K mainGlobals "NoThing" = some (some (.ref C6)))
    (aCC7 : PySem.W.nsIn K mainGlobals "NoCell" = some (some (.ref C7)))
    (a0 : PySem.W.nsIn K mainGlobals "_law_hand" = some (some (.ref f0)))
    (l0 : K.lookup f0 = some ⟨oc0, od0, .func (PySem.W.fnOf "_law_hand" "_law_hand" (defArgs st_law_hand) (defBody st_law_hand) (defScope st_law_hand) .none kV0 dc0 pm0 an0 cd0 ct0), sl0⟩)
    (c0 : PySem.W.codeIn K cd0 "_law_hand" = true)
    (k0 : PySem.W.keepIn K (.ref f0) = true)
    (a1 : PySem.W.nsIn K mainGlobals "_law_draw" = some (some (.ref f1)))
    (l1 : K.lookup f1 = some ⟨oc1, od1, .func (PySem.W.fnOf "_law_draw" "_law_draw" (defArgs st_law_draw) (defBody st_law_draw) (defScope st_law_draw) .none kV1 dc1 pm1 an1 cd1 ct1), sl1⟩)
    (c1 : PySem.W.codeIn K cd1 "_law_draw" = true)
    (k1 : PySem.W.keepIn K (.ref f1) = true)
    (a2 : PySem.W.nsIn K mainGlobals "_law_any" = some (some (.ref f2)))
    (l2 : K.lookup f2 = some ⟨oc2, od2, .func (PySem.W.fnOf "_law_any" "_law_any" (defArgs st_law_any) (defBody st_law_any) (defScope st_law_any) .none kV2 dc2 pm2 an2 cd2 ct2), sl2⟩)
    (c2 : PySem.W.codeIn K cd2 "_law_any" = true)
    (k2 : PySem.W.keepIn K (.ref f2) = true)
    (a3 : PySem.W.nsIn K mainGlobals "_law_nested" = some (some (.ref f3)))
    (l3 : K.lookup f3 = some ⟨oc3, od3, .func (PySem.W.fnOf "_law_nested" "_law_nested" (defArgs st_law_nested) (defBody st_law_nested) (defScope st_law_nested) .none kV3 dc3 pm3 an3 cd3 ct3), sl3⟩)
    (c3 : PySem.W.codeIn K cd3 "_law_nested" = true)
    (k3 : PySem.W.keepIn K (.ref f3) = true)
    (a4 : PySem.W.nsIn K mainGlobals "_law_is_value" = some (some (.ref f4)))
    (l4 : K.lookup f4 = some ⟨oc4, od4, .func (PySem.W.fnOf "_law_is_value" "_law_is_value" (defArgs st_law_is_value) (defBody st_law_is_value) (defScope st_law_is_value) .none kV4 dc4 pm4 an4 cd4 ct4), sl4⟩)
    (c4 : PySem.W.codeIn K cd4 "_law_is_value" = true)
    (k4 : PySem.W.keepIn K (.ref f4) = true)
    (a5 : PySem.W.nsIn K mainGlobals "_law_asked" = some (some (.ref f5)))
    (l5 : K.lookup f5 = some ⟨oc5, od5, .func (PySem.W.fnOf "_law_asked" "_law_asked" (defArgs st_law_asked) (defBody st_law_asked) (defScope st_law_asked) .none kV5 dc5 pm5 an5 cd5 ct5), sl5⟩)
    (c5 : PySem.W.codeIn K cd5 "_law_asked" = true)
    (k5 : PySem.W.keepIn K (.ref f5) = true)
    (a6 : PySem.W.nsIn K mainGlobals "is_integer" = some (some (.ref f6)))
    (l6 : K.lookup f6 = some ⟨oc6, od6, .func (PySem.W.fnOf "is_integer" "is_integer" (defArgs st_is_integer) (defBody st_is_integer) (defScope st_is_integer) .none kV6 dc6 pm6 an6 cd6 ct6), sl6⟩)
    (c6 : PySem.W.codeIn K cd6 "is_integer" = true)
    (k6 : PySem.W.keepIn K (.ref f6) = true)
    (a7 : PySem.W.nsIn K mainGlobals "is_within" = some (some (.ref f7)))
    (l7 : K.lookup f7 = some ⟨oc7, od7, .func (PySem.W.fnOf "is_within" "is_within" (defArgs st_is_within) (defBody st_is_within) (defScope st_is_within) .none kV7 dc7 pm7 an7 cd7 ct7), sl7⟩)
    (c7 : PySem.W.codeIn K cd7 "is_within" = true)
    (k7 : PySem.W.keepIn K (.ref f7) = true)
    (a8 : PySem.W.findIn K (.ref C0) "__init__" = some (some (.ref f8)))
    (i8 : PySem.W.isFn K (.ref f8) = true)
    (l8 : K.lookup f8 = some ⟨oc8, od8, .func (PySem.W.fnOf "__init__" "Disk.__init__" (defArgs st_Disk_init) (defBody st_Disk_init) (defScope st_Disk_init) .none kV8 dc8 pm8 an8 cd8 ct8), sl8⟩)
    (c8 : PySem.W.codeIn K cd8 "Disk.__init__" = true)
    (k8 : PySem.W.keepIn K (.ref f8) = true)
    (a9 : PySem.W.nsIn K mainGlobals "_law_account" = some (some (.ref f9)))
    (l9 : K.lookup f9 = some ⟨oc9, od9, .func (PySem.W.fnOf "_law_account" "_law_account" (defArgs st_law_account) (defBody st_law_account) (defScope st_law_account) .none kV9 dc9 pm9 an9 cd9 ct9), sl9⟩)
    (c9 : PySem.W.codeIn K cd9 "_law_account" = true)
    (k9 : PySem.W.keepIn K (.ref f9) = true)
    (a10 : PySem.W.nsIn K mainGlobals "_law_thing" = some (some (.ref f10)))
    (l10 : K.lookup f10 = some ⟨oc10, od10, .func (PySem.W.fnOf "_law_thing" "_law_thing" (defArgs st_law_thing) (defBody st_law_thing) (defScope st_law_thing) .none kV10 dc10 pm10 an10 cd10 ct10), sl10⟩)
    (c10 : PySem.W.codeIn K cd10 "_law_thing" = true)
    (k10 : PySem.W.keepIn K (.ref f10) = true)
    (a11 : PySem.W.findIn K (.ref C0) "check_cell" = some (some (.ref f11)))
    (i11 : PySem.W.isFn K (.ref f11) = true)
    (l11 : K.lookup f11 = some ⟨oc11, od11, .func (PySem.W.fnOf "check_cell" "Disk.check_cell" (defArgs st_Disk_check_cell) (defBody st_Disk_check_cell) (defScope st_Disk_check_cell) .none kV11 dc11 pm11 an11 cd11 ct11), sl11⟩)
    (c11 : PySem.W.codeIn K cd11 "Disk.check_cell" = true)
    (k11 : PySem.W.keepIn K (.ref f11) = true)
    (a12 : PySem.W.nsIn K mainGlobals "is_thing" = some (some (.ref f12)))
    (l12 : K.lookup f12 = some ⟨oc12, od12, .func (PySem.W.fnOf "is_thing" "is_thing" (defArgs st_is_thing) (defBody st_is_thing) (defScope st_is_thing) .none kV12 dc12 pm12 an12 cd12 ct12), sl12⟩)
    (c12 : PySem.W.codeIn K cd12 "is_thing" = true)
    (k12 : PySem.W.keepIn K (.ref f12) = true)
    (a13 : PySem.W.findIn K (.ref C0) "write" = some (some (.ref f13)))
    (i13 : PySem.W.isFn K (.ref f13) = true)
    (l13 : K.lookup f13 = some ⟨oc13, od13, .func (PySem.W.fnOf "write" "Disk.write" (defArgs st_Disk_write) (defBody st_Disk_write) (defScope st_Disk_write) .none kV13 dc13 pm13 an13 cd13 ct13), sl13⟩)
    (c13 : PySem.W.codeIn K cd13 "Disk.write" = true)
    (k13 : PySem.W.keepIn K (.ref f13) = true)
    (a14 : PySem.W.findIn K (.ref C0) "reach_one" = some (some (.ref f14)))
    (i14 : PySem.W.isFn K (.ref f14) = true)
    (l14 : K.lookup f14 = some ⟨oc14, od14, .func (PySem.W.fnOf "reach_one" "Disk.reach_one" (defArgs st_Disk_reach_one) (defBody st_Disk_reach_one) (defScope st_Disk_reach_one) .none kV14 dc14 pm14 an14 cd14 ct14), sl14⟩)
    (c14 : PySem.W.codeIn K cd14 "Disk.reach_one" = true)
    (k14 : PySem.W.keepIn K (.ref f14) = true)
    (a15 : PySem.W.findIn K (.ref C0) "reach" = some (some (.ref f15)))
    (i15 : PySem.W.isFn K (.ref f15) = true)
    (l15 : K.lookup f15 = some ⟨oc15, od15, .func (PySem.W.fnOf "reach" "Disk.reach" (defArgs st_Disk_reach) (defBody st_Disk_reach) (defScope st_Disk_reach) .none kV15 dc15 pm15 an15 cd15 ct15), sl15⟩)
    (c15 : PySem.W.codeIn K cd15 "Disk.reach" = true)
    (k15 : PySem.W.keepIn K (.ref f15) = true)
    (a16 : PySem.W.nsIn K mainGlobals "_law_reached" = some (some (.ref f16)))
    (l16 : K.lookup f16 = some ⟨oc16, od16, .func (PySem.W.fnOf "_law_reached" "_law_reached" (defArgs st_law_reached) (defBody st_law_reached) (defScope st_law_reached) .none kV16 dc16 pm16 an16 cd16 ct16), sl16⟩)
    (c16 : PySem.W.codeIn K cd16 "_law_reached" = true)
    (k16 : PySem.W.keepIn K (.ref f16) = true)
    (a17 : PySem.W.nsIn K mainGlobals "_law_calmed" = some (some (.ref f17)))
    (l17 : K.lookup f17 = some ⟨oc17, od17, .func (PySem.W.fnOf "_law_calmed" "_law_calmed" (defArgs st_law_calmed) (defBody st_law_calmed) (defScope st_law_calmed) .none kV17 dc17 pm17 an17 cd17 ct17), sl17⟩)
    (c17 : PySem.W.codeIn K cd17 "_law_calmed" = true)
    (k17 : PySem.W.keepIn K (.ref f17) = true)
    (a18 : PySem.W.findIn K (.ref C0) "calm" = some (some (.ref f18)))
    (i18 : PySem.W.isFn K (.ref f18) = true)
    (l18 : K.lookup f18 = some ⟨oc18, od18, .func (PySem.W.fnOf "calm" "Disk.calm" (defArgs st_Disk_calm) (defBody st_Disk_calm) (defScope st_Disk_calm) .none kV18 dc18 pm18 an18 cd18 ct18), sl18⟩)
    (c18 : PySem.W.codeIn K cd18 "Disk.calm" = true)
    (k18 : PySem.W.keepIn K (.ref f18) = true)
    (a19 : PySem.W.nsIn K mainGlobals "_law_lost" = some (some (.ref f19)))
    (l19 : K.lookup f19 = some ⟨oc19, od19, .func (PySem.W.fnOf "_law_lost" "_law_lost" (defArgs st_law_lost) (defBody st_law_lost) (defScope st_law_lost) .none kV19 dc19 pm19 an19 cd19 ct19), sl19⟩)
    (c19 : PySem.W.codeIn K cd19 "_law_lost" = true)
    (k19 : PySem.W.keepIn K (.ref f19) = true)
    (a20 : PySem.W.findIn K (.ref C0) "cut" = some (some (.ref f20)))
    (i20 : PySem.W.isFn K (.ref f20) = true)
    (l20 : K.lookup f20 = some ⟨oc20, od20, .func (PySem.W.fnOf "cut" "Disk.cut" (defArgs st_Disk_cut) (defBody st_Disk_cut) (defScope st_Disk_cut) .none kV20 dc20 pm20 an20 cd20 ct20), sl20⟩)
    (c20 : PySem.W.codeIn K cd20 "Disk.cut" = true)
    (k20 : PySem.W.keepIn K (.ref f20) = true)
    (a21 : PySem.W.findIn K (.ref C0) "power" = some (some (.ref f21)))
    (i21 : PySem.W.isFn K (.ref f21) = true)
    (l21 : K.lookup f21 = some ⟨oc21, od21, .func (PySem.W.fnOf "power" "Disk.power" (defArgs st_Disk_power) (defBody st_Disk_power) (defScope st_Disk_power) .none kV21 dc21 pm21 an21 cd21 ct21), sl21⟩)
    (c21 : PySem.W.codeIn K cd21 "Disk.power" = true)
    (k21 : PySem.W.keepIn K (.ref f21) = true)
    (a22 : PySem.W.nsIn K mainGlobals "_law_deed" = some (some (.ref f22)))
    (l22 : K.lookup f22 = some ⟨oc22, od22, .func (PySem.W.fnOf "_law_deed" "_law_deed" (defArgs st_law_deed) (defBody st_law_deed) (defScope st_law_deed) .none kV22 dc22 pm22 an22 cd22 ct22), sl22⟩)
    (c22 : PySem.W.codeIn K cd22 "_law_deed" = true)
    (k22 : PySem.W.keepIn K (.ref f22) = true)
    (a23 : PySem.W.findIn K (.ref C0) "read" = some (some (.ref f23)))
    (i23 : PySem.W.isFn K (.ref f23) = true)
    (l23 : K.lookup f23 = some ⟨oc23, od23, .func (PySem.W.fnOf "read" "Disk.read" (defArgs st_Disk_read) (defBody st_Disk_read) (defScope st_Disk_read) .none kV23 dc23 pm23 an23 cd23 ct23), sl23⟩)
    (c23 : PySem.W.codeIn K cd23 "Disk.read" = true)
    (k23 : PySem.W.keepIn K (.ref f23) = true)
    (a24 : PySem.W.findIn K (.ref C0) "lying" = some (some (.ref f24)))
    (i24 : PySem.W.isFn K (.ref f24) = true)
    (l24 : K.lookup f24 = some ⟨oc24, od24, .func (PySem.W.fnOf "lying" "Disk.lying" (defArgs st_Disk_lying) (defBody st_Disk_lying) (defScope st_Disk_lying) .none kV24 dc24 pm24 an24 cd24 ct24), sl24⟩)
    (c24 : PySem.W.codeIn K cd24 "Disk.lying" = true)
    (k24 : PySem.W.keepIn K (.ref f24) = true)
    (a25 : PySem.W.nsIn K mainGlobals "_law_odd_right" = some (some (.ref f25)))
    (l25 : K.lookup f25 = some ⟨oc25, od25, .func (PySem.W.fnOf "_law_odd_right" "_law_odd_right" (defArgs st_law_odd_right) (defBody st_law_odd_right) (defScope st_law_odd_right) .none kV25 dc25 pm25 an25 cd25 ct25), sl25⟩)
    (c25 : PySem.W.codeIn K cd25 "_law_odd_right" = true)
    (k25 : PySem.W.keepIn K (.ref f25) = true)
    (a26 : PySem.W.nsIn K mainGlobals "_law_is" = some (some (.ref f26)))
    (l26 : K.lookup f26 = some ⟨oc26, od26, .func (PySem.W.fnOf "_law_is" "_law_is" (defArgs st_law_is) (defBody st_law_is) (defScope st_law_is) .none kV26 dc26 pm26 an26 cd26 ct26), sl26⟩)
    (c26 : PySem.W.codeIn K cd26 "_law_is" = true)
    (k26 : PySem.W.keepIn K (.ref f26) = true)
    (a27 : PySem.W.findIn K (.ref C0) "waiting" = some (some (.ref f27)))
    (i27 : PySem.W.isFn K (.ref f27) = true)
    (l27 : K.lookup f27 = some ⟨oc27, od27, .func (PySem.W.fnOf "waiting" "Disk.waiting" (defArgs st_Disk_waiting) (defBody st_Disk_waiting) (defScope st_Disk_waiting) .none kV27 dc27 pm27 an27 cd27 ct27), sl27⟩)
    (c27 : PySem.W.codeIn K cd27 "Disk.waiting" = true)
    (k27 : PySem.W.keepIn K (.ref f27) = true)
    (a28 : PySem.W.findIn K (.ref C0) "reached" = some (some (.ref f28)))
    (i28 : PySem.W.isFn K (.ref f28) = true)
    (l28 : K.lookup f28 = some ⟨oc28, od28, .func (PySem.W.fnOf "reached" "Disk.reached" (defArgs st_Disk_reached) (defBody st_Disk_reached) (defScope st_Disk_reached) .none kV28 dc28 pm28 an28 cd28 ct28), sl28⟩)
    (c28 : PySem.W.codeIn K cd28 "Disk.reached" = true)
    (k28 : PySem.W.keepIn K (.ref f28) = true)
    (a29 : PySem.W.findIn K (.ref C0) "used" = some (some (.ref f29)))
    (i29 : PySem.W.isFn K (.ref f29) = true)
    (l29 : K.lookup f29 = some ⟨oc29, od29, .func (PySem.W.fnOf "used" "Disk.used" (defArgs st_Disk_used) (defBody st_Disk_used) (defScope st_Disk_used) .none kV29 dc29 pm29 an29 cd29 ct29), sl29⟩)
    (c29 : PySem.W.codeIn K cd29 "Disk.used" = true)
    (k29 : PySem.W.keepIn K (.ref f29) = true)
    (a30 : PySem.W.findIn K (.ref C0) "many_cells" = some (some (.ref f30)))
    (i30 : PySem.W.isFn K (.ref f30) = true)
    (l30 : K.lookup f30 = some ⟨oc30, od30, .func (PySem.W.fnOf "many_cells" "Disk.many_cells" (defArgs st_Disk_many_cells) (defBody st_Disk_many_cells) (defScope st_Disk_many_cells) .none kV30 dc30 pm30 an30 cd30 ct30), sl30⟩)
    (c30 : PySem.W.codeIn K cd30 "Disk.many_cells" = true)
    (k30 : PySem.W.keepIn K (.ref f30) = true)
    (a31 : PySem.W.nsIn K mainGlobals "_law_disk_is" = some (some (.ref f31)))
    (l31 : K.lookup f31 = some ⟨oc31, od31, .func (PySem.W.fnOf "_law_disk_is" "_law_disk_is" (defArgs st_law_disk_is) (defBody st_law_disk_is) (defScope st_law_disk_is) .none kV31 dc31 pm31 an31 cd31 ct31), sl31⟩)
    (c31 : PySem.W.codeIn K cd31 "_law_disk_is" = true)
    (k31 : PySem.W.keepIn K (.ref f31) = true)
    (a32 : PySem.W.nsIn K mainGlobals "law" = some (some (.ref fb)))
    (l32 : K.lookup fb = some ⟨oc32, od32, .func (PySem.W.fnOf "law" "law" (defArgs st_law) (defBody st_law) (defScope st_law) .none kV32 dc32 pm32 an32 cd32 ct32), sl32⟩)
    (c32 : PySem.W.codeIn K cd32 "law" = true)
    (k32 : PySem.W.keepIn K (.ref fb) = true)
    (pgC0 : PySem.W.plainGet K C0 Str.empty = true)
    (hdC0 : PySem.W.hasDictIn K C0 = true)
    (poC0 : PySem.W.plainOver K C0 = true)
    (saC0 : PySem.W.findIn K (.ref C0) "__setattr__" = some (some (.builtin "object.__setattr__")))
    (mkC0 : PySem.W.makesIn K C0 = true)
    (kcC0 : PySem.W.keepIn K (.ref C0) = true)
    (oaC0 : PySem.W.findIn K (.ref C0) "__class__" = some (some (.builtin "object.__class__")))
    (onC0 : PySem.W.specialIn K (.builtin "object.__class__") "__get__" = some (some (.builtin "getset_descriptor.__get__")))
    (otC0 : PySem.W.takesIn K (.builtin "object.__class__") = some true)
    (omC0 : PySem.W.mroIn K C0 (.type "object") = some true)
    (iC0tuple : PySem.W.kitOne K (.ref C0) (.type "tuple") = some false)
    (iC0int : PySem.W.kitOne K (.ref C0) (.type "int") = some false)
    (iC0bool : PySem.W.kitOne K (.ref C0) (.type "bool") = some false)
    (iC0list : PySem.W.kitOne K (.ref C0) (.type "list") = some false)
    (iC0dict : PySem.W.kitOne K (.ref C0) (.type "dict") = some false)
    (iC0str : PySem.W.kitOne K (.ref C0) (.type "str") = some false)
    (nC0_kept_lying : PySem.W.findIn K (.ref C0) "kept_lying" = some none)
    (nC0_kept_waiting : PySem.W.findIn K (.ref C0) "kept_waiting" = some none)
    (nC0_kept_power : PySem.W.findIn K (.ref C0) "kept_power" = some none)
    (nC0_kept_reached : PySem.W.findIn K (.ref C0) "kept_reached" = some none)
    (z_abs : PySem.W.nsIn K mainGlobals "abs" = some none)
    (z_int : PySem.W.nsIn K mainGlobals "int" = some none)
    (z_len : PySem.W.nsIn K mainGlobals "len" = some none)
    (z_range : PySem.W.nsIn K mainGlobals "range" = some none)
    (z_bool : PySem.W.nsIn K mainGlobals "bool" = some none)
    (z_isinstance : PySem.W.nsIn K mainGlobals "isinstance" = some none)
    (z_ValueError : PySem.W.nsIn K mainGlobals "ValueError" = some none)
    (v_MOST_CELLS : PySem.W.nsIn K mainGlobals "MOST_CELLS" = some (some (.int 2000 t_MOST_CELLS)))
    (z_all : PySem.W.nsIn K mainGlobals "all" = some none)
    (v_MOST_NUMBER : PySem.W.nsIn K mainGlobals "MOST_NUMBER" = some (some (.int 1000000 t_MOST_NUMBER)))
    (z_tuple : PySem.W.nsIn K mainGlobals "tuple" = some none)
    (z_sorted : PySem.W.nsIn K mainGlobals "sorted" = some none)
    (z_list : PySem.W.nsIn K mainGlobals "list" = some none)
    (z_zip : PySem.W.nsIn K mainGlobals "zip" = some none)
    (z_dict : PySem.W.nsIn K mainGlobals "dict" = some none)
    (iBadDiskNothingWaits : PySem.W.kitOne K (.ref C3) (.ref C1) = some false)
    (iNoCellNothingWaits : PySem.W.kitOne K (.ref C7) (.ref C1) = some false)
    (iNoThingNothingWaits : PySem.W.kitOne K (.ref C6) (.ref C1) = some false)
    (iNothingWaitsNothingWaits : PySem.W.kitOne K (.ref C1) (.ref C1) = some true)
    (iStoppedNothingWaits : PySem.W.kitOne K (.ref C4) (.ref C1) = some false)
    (iNoNumberNothingWaits : PySem.W.kitOne K (.ref C2) (.ref C1) = some false)
    (iBadDiskNoThing : PySem.W.kitOne K (.ref C3) (.ref C6) = some false)
    (iNoCellNoThing : PySem.W.kitOne K (.ref C7) (.ref C6) = some false)
    (iNoThingNoThing : PySem.W.kitOne K (.ref C6) (.ref C6) = some true)
    (iNothingWaitsNoThing : PySem.W.kitOne K (.ref C1) (.ref C6) = some false)
    (iStoppedNoThing : PySem.W.kitOne K (.ref C4) (.ref C6) = some false)
    (iNoNumberNoThing : PySem.W.kitOne K (.ref C2) (.ref C6) = some false)
    (iBadDiskNoCell : PySem.W.kitOne K (.ref C3) (.ref C7) = some false)
    (iNoCellNoCell : PySem.W.kitOne K (.ref C7) (.ref C7) = some true)
    (iNoThingNoCell : PySem.W.kitOne K (.ref C6) (.ref C7) = some false)
    (iNothingWaitsNoCell : PySem.W.kitOne K (.ref C1) (.ref C7) = some false)
    (iStoppedNoCell : PySem.W.kitOne K (.ref C4) (.ref C7) = some false)
    (iNoNumberNoCell : PySem.W.kitOne K (.ref C2) (.ref C7) = some false)
    (iBadDiskBadDisk : PySem.W.kitOne K (.ref C3) (.ref C3) = some true)
    (iNoCellBadDisk : PySem.W.kitOne K (.ref C7) (.ref C3) = some false)
    (iNoThingBadDisk : PySem.W.kitOne K (.ref C6) (.ref C3) = some false)
    (iNothingWaitsBadDisk : PySem.W.kitOne K (.ref C1) (.ref C3) = some false)
    (iStoppedBadDisk : PySem.W.kitOne K (.ref C4) (.ref C3) = some false)
    (iNoNumberBadDisk : PySem.W.kitOne K (.ref C2) (.ref C3) = some false)
    (iBadDiskNoNumber : PySem.W.kitOne K (.ref C3) (.ref C2) = some false)
    (iNoCellNoNumber : PySem.W.kitOne K (.ref C7) (.ref C2) = some false)
    (iNoThingNoNumber : PySem.W.kitOne K (.ref C6) (.ref C2) = some false)
    (iNothingWaitsNoNumber : PySem.W.kitOne K (.ref C1) (.ref C2) = some false)
    (iStoppedNoNumber : PySem.W.kitOne K (.ref C4) (.ref C2) = some false)
    (iNoNumberNoNumber : PySem.W.kitOne K (.ref C2) (.ref C2) = some true)
    (iBadDiskStopped : PySem.W.kitOne K (.ref C3) (.ref C4) = some false)
    (iNoCellStopped : PySem.W.kitOne K (.ref C7) (.ref C4) = some false)
    (iNoThingStopped : PySem.W.kitOne K (.ref C6) (.ref C4) = some false)
    (iNothingWaitsStopped : PySem.W.kitOne K (.ref C1) (.ref C4) = some false)
    (iStoppedStopped : PySem.W.kitOne K (.ref C4) (.ref C4) = some true)
    (iNoNumberStopped : PySem.W.kitOne K (.ref C2) (.ref C4) = some false)
    (iBadDiskValueError : PySem.W.kitOne K (.ref C3) (.type "ValueError") = some true)
    (iNoCellValueError : PySem.W.kitOne K (.ref C7) (.type "ValueError") = some true)
    (iNoThingValueError : PySem.W.kitOne K (.ref C6) (.type "ValueError") = some true)
    (iNothingWaitsValueError : PySem.W.kitOne K (.ref C1) (.type "ValueError") = some true)
    (iStoppedValueError : PySem.W.kitOne K (.ref C4) (.type "ValueError") = some true)
    (iNoNumberValueError : PySem.W.kitOne K (.ref C2) (.type "ValueError") = some true)
    (qgC2 : PySem.W.findIn K (.ref C2) "__getattribute__" = some (some (.builtin "BaseException.__getattribute__")))
    (qkC2 : PySem.W.findIn K (.ref C2) "__getattr__" = some none)
    (qsC2 : PySem.W.subIn K (.ref C2) (.type "BaseException") = some true)
    (qdC2 : PySem.W.hasDictIn K C2 = true)
    (qaC2 : PySem.W.findIn K (.ref C2) "__class__" = some (some (.builtin "object.__class__")))
    (qnC2 : PySem.W.specialIn K (.builtin "object.__class__") "__get__" = some (some (.builtin "getset_descriptor.__get__")))
    (qtC2 : PySem.W.takesIn K (.builtin "object.__class__") = some true)
    (qmC2 : PySem.W.mroIn K C2 (.type "object") = some true)
    (qgC4 : PySem.W.findIn K (.ref C4) "__getattribute__" = some (some (.builtin "BaseException.__getattribute__")))
    (qkC4 : PySem.W.findIn K (.ref C4) "__getattr__" = some none)
    (qsC4 : PySem.W.subIn K (.ref C4) (.type "BaseException") = some true)
    (qdC4 : PySem.W.hasDictIn K C4 = true)
    (qaC4 : PySem.W.findIn K (.ref C4) "__class__" = some (some (.builtin "object.__class__")))
    (qnC4 : PySem.W.specialIn K (.builtin "object.__class__") "__get__" = some (some (.builtin "getset_descriptor.__get__")))
    (qtC4 : PySem.W.takesIn K (.builtin "object.__class__") = some true)
    (qmC4 : PySem.W.mroIn K C4 (.type "object") = some true)
    (qgC1 : PySem.W.findIn K (.ref C1) "__getattribute__" = some (some (.builtin "BaseException.__getattribute__")))
    (qkC1 : PySem.W.findIn K (.ref C1) "__getattr__" = some none)
    (qsC1 : PySem.W.subIn K (.ref C1) (.type "BaseException") = some true)
    (qdC1 : PySem.W.hasDictIn K C1 = true)
    (qaC1 : PySem.W.findIn K (.ref C1) "__class__" = some (some (.builtin "object.__class__")))
    (qnC1 : PySem.W.specialIn K (.builtin "object.__class__") "__get__" = some (some (.builtin "getset_descriptor.__get__")))
    (qtC1 : PySem.W.takesIn K (.builtin "object.__class__") = some true)
    (qmC1 : PySem.W.mroIn K C1 (.type "object") = some true)
    (qgC6 : PySem.W.findIn K (.ref C6) "__getattribute__" = some (some (.builtin "BaseException.__getattribute__")))
    (qkC6 : PySem.W.findIn K (.ref C6) "__getattr__" = some none)
    (qsC6 : PySem.W.subIn K (.ref C6) (.type "BaseException") = some true)
    (qdC6 : PySem.W.hasDictIn K C6 = true)
    (qaC6 : PySem.W.findIn K (.ref C6) "__class__" = some (some (.builtin "object.__class__")))
    (qnC6 : PySem.W.specialIn K (.builtin "object.__class__") "__get__" = some (some (.builtin "getset_descriptor.__get__")))
    (qtC6 : PySem.W.takesIn K (.builtin "object.__class__") = some true)
    (qmC6 : PySem.W.mroIn K C6 (.type "object") = some true)
    (qgC7 : PySem.W.findIn K (.ref C7) "__getattribute__" = some (some (.builtin "BaseException.__getattribute__")))
    (qkC7 : PySem.W.findIn K (.ref C7) "__getattr__" = some none)
    (qsC7 : PySem.W.subIn K (.ref C7) (.type "BaseException") = some true)
    (qdC7 : PySem.W.hasDictIn K C7 = true)
    (qaC7 : PySem.W.findIn K (.ref C7) "__class__" = some (some (.builtin "object.__class__")))
    (qnC7 : PySem.W.specialIn K (.builtin "object.__class__") "__get__" = some (some (.builtin "getset_descriptor.__get__")))
    (qtC7 : PySem.W.takesIn K (.builtin "object.__class__") = some true)
    (qmC7 : PySem.W.mroIn K C7 (.type "object") = some true)
    (qgC3 : PySem.W.findIn K (.ref C3) "__getattribute__" = some (some (.builtin "BaseException.__getattribute__")))
    (qkC3 : PySem.W.findIn K (.ref C3) "__getattr__" = some none)
    (qsC3 : PySem.W.subIn K (.ref C3) (.type "BaseException") = some true)
    (qdC3 : PySem.W.hasDictIn K C3 = true)
    (qaC3 : PySem.W.findIn K (.ref C3) "__class__" = some (some (.builtin "object.__class__")))
    (qnC3 : PySem.W.specialIn K (.builtin "object.__class__") "__get__" = some (some (.builtin "getset_descriptor.__get__")))
    (qtC3 : PySem.W.takesIn K (.builtin "object.__class__") = some true)
    (qmC3 : PySem.W.mroIn K C3 (.type "object") = some true)
    (xNoNumberKeepError : PySem.W.exmOne K (.ref C2) (.ref C5) = some true)
    (xStoppedKeepError : PySem.W.exmOne K (.ref C4) (.ref C5) = some true)
    (xNothingWaitsKeepError : PySem.W.exmOne K (.ref C1) (.ref C5) = some true)
    (xNoThingKeepError : PySem.W.exmOne K (.ref C6) (.ref C5) = some true)
    (xNoCellKeepError : PySem.W.exmOne K (.ref C7) (.ref C5) = some true)
    (xBadDiskKeepError : PySem.W.exmOne K (.ref C3) (.ref C5) = some true)
    (exC3 : PySem.W.excIn K C3 [.type "ValueError", .type "Exception", .type "BaseException", .type "object"] "ValueError.__new__" = true)
    (ekC3 : PySem.W.keepIn K (.ref C3) = true)
    (ebC3 : PySem.W.subIn K (.ref C3) (.type "BaseException") = some true)
    (etC3 : PySem.W.typeIn K (.ref C3) = some (.type "type"))
    (exC7 : PySem.W.excIn K C7 [.type "ValueError", .type "Exception", .type "BaseException", .type "object"] "ValueError.__new__" = true)
    (ekC7 : PySem.W.keepIn K (.ref C7) = true)
    (ebC7 : PySem.W.subIn K (.ref C7) (.type "BaseException") = some true)
    (etC7 : PySem.W.typeIn K (.ref C7) = some (.type "type"))
    (exC6 : PySem.W.excIn K C6 [.type "ValueError", .type "Exception", .type "BaseException", .type "object"] "ValueError.__new__" = true)
    (ekC6 : PySem.W.keepIn K (.ref C6) = true)
    (ebC6 : PySem.W.subIn K (.ref C6) (.type "BaseException") = some true)
    (etC6 : PySem.W.typeIn K (.ref C6) = some (.type "type"))
    (exC4 : PySem.W.excIn K C4 [.type "ValueError", .type "Exception", .type "BaseException", .type "object"] "ValueError.__new__" = true)
    (ekC4 : PySem.W.keepIn K (.ref C4) = true)
    (ebC4 : PySem.W.subIn K (.ref C4) (.type "BaseException") = some true)
    (etC4 : PySem.W.typeIn K (.ref C4) = some (.type "type"))
    (exC1 : PySem.W.excIn K C1 [.type "ValueError", .type "Exception", .type "BaseException", .type "object"] "ValueError.__new__" = true)
    (ekC1 : PySem.W.keepIn K (.ref C1) = true)
    (ebC1 : PySem.W.subIn K (.ref C1) (.type "BaseException") = some true)
    (etC1 : PySem.W.typeIn K (.ref C1) = some (.type "type"))
    (exC2 : PySem.W.excIn K C2 [.type "ValueError", .type "Exception", .type "BaseException", .type "object"] "ValueError.__new__" = true)
    (ekC2 : PySem.W.keepIn K (.ref C2) = true)
    (ebC2 : PySem.W.subIn K (.ref C2) (.type "BaseException") = some true)
    (etC2 : PySem.W.typeIn K (.ref C2) = some (.type "type"))
    (lame22 : cd22 = .ref cc22)
    (laml22 : K.lookup cc22 = some ⟨occ22, odc22, .fields vsc22, slc22⟩)
    (lamv22 : (vsc22[11]? : Option Value) = some (.ref tt22))
    (lamh22 : PySem.W.codeHdIn K cc22 tt22 = true)
    (lamn22 : K.lookup tt22 = none)
    (lamt22 : h.get? tt22 = some (PySem.W.tabObj #[]))
    (lame25 : cd25 = .ref cc25)
    (laml25 : K.lookup cc25 = some ⟨occ25, odc25, .fields vsc25, slc25⟩)
    (lamv25 : (vsc25[11]? : Option Value) = some (.ref tt25))
    (lamh25 : PySem.W.codeHdIn K cc25 tt25 = true)
    (lamn25 : K.lookup tt25 = none)
    (lamt25 : h.get? tt25 = some (PySem.W.tabObj #[]))
    (lame32 : cd32 = .ref cc32)
    (laml32 : K.lookup cc32 = some ⟨occ32, odc32, .fields vsc32, slc32⟩)
    (lamv32 : (vsc32[11]? : Option Value) = some (.ref tt32))
    (lamh32 : PySem.W.codeHdIn K cc32 tt32 = true)
    (lamn32 : K.lookup tt32 = none)
    (lamt32 : h.get? tt32 = some (PySem.W.tabObj #[]))
    (lamd22x25 : tt22 ≠ tt25)
    (lamd22x32 : tt22 ≠ tt32)
    (lamd25x32 : tt25 ≠ tt32)
    : LamX.LawAtS l w K (L2.CX l.prog w) 10 63 "_law_script" mg fa h := by
  have efa := hfa.symm.trans (PySem.W.mg_of X G a32)
  cases efa
  have hA : ∃ A : Str → Addr, A "Disk" = C0 ∧ A "NothingWaits" = C1 ∧ A "NoNumber" = C2 ∧ A "BadDisk" = C3 ∧ A "Stopped" = C4 ∧ A "KeepError" = C5 ∧ A "NoThing" = C6 ∧ A "NoCell" = C7 := ⟨fun x => if x = "Disk" then C0 else if x = "NothingWaits" then C1 else if x = "NoNumber" then C2 else if x = "BadDisk" then C3 else if x = "Stopped" then C4 else if x = "KeepError" then C5 else if x = "NoThing" then C6 else if x = "NoCell" then C7 else 0, if_pos rfl, ((if_neg (show ¬ (("NothingWaits" : Str) = "Disk") by decide +kernel)).trans (if_pos rfl)), ((if_neg (show ¬ (("NoNumber" : Str) = "Disk") by decide +kernel)).trans ((if_neg (show ¬ (("NoNumber" : Str) = "NothingWaits") by decide +kernel)).trans (if_pos rfl))), ((if_neg (show ¬ (("BadDisk" : Str) = "Disk") by decide +kernel)).trans ((if_neg (show ¬ (("BadDisk" : Str) = "NothingWaits") by decide +kernel)).trans ((if_neg (show ¬ (("BadDisk" : Str) = "NoNumber") by decide +kernel)).trans (if_pos rfl)))), ((if_neg (show ¬ (("Stopped" : Str) = "Disk") by decide +kernel)).trans ((if_neg (show ¬ (("Stopped" : Str) = "NothingWaits") by decide +kernel)).trans ((if_neg (show ¬ (("Stopped" : Str) = "NoNumber") by decide +kernel)).trans ((if_neg (show ¬ (("Stopped" : Str) = "BadDisk") by decide +kernel)).trans (if_pos rfl))))), ((if_neg (show ¬ (("KeepError" : Str) = "Disk") by decide +kernel)).trans ((if_neg (show ¬ (("KeepError" : Str) = "NothingWaits") by decide +kernel)).trans ((if_neg (show ¬ (("KeepError" : Str) = "NoNumber") by decide +kernel)).trans ((if_neg (show ¬ (("KeepError" : Str) = "BadDisk") by decide +kernel)).trans ((if_neg (show ¬ (("KeepError" : Str) = "Stopped") by decide +kernel)).trans (if_pos rfl)))))), ((if_neg (show ¬ (("NoThing" : Str) = "Disk") by decide +kernel)).trans ((if_neg (show ¬ (("NoThing" : Str) = "NothingWaits") by decide +kernel)).trans ((if_neg (show ¬ (("NoThing" : Str) = "NoNumber") by decide +kernel)).trans ((if_neg (show ¬ (("NoThing" : Str) = "BadDisk") by decide +kernel)).trans ((if_neg (show ¬ (("NoThing" : Str) = "Stopped") by decide +kernel)).trans ((if_neg (show ¬ (("NoThing" : Str) = "KeepError") by decide +kernel)).trans (if_pos rfl))))))), ((if_neg (show ¬ (("NoCell" : Str) = "Disk") by decide +kernel)).trans ((if_neg (show ¬ (("NoCell" : Str) = "NothingWaits") by decide +kernel)).trans ((if_neg (show ¬ (("NoCell" : Str) = "NoNumber") by decide +kernel)).trans ((if_neg (show ¬ (("NoCell" : Str) = "BadDisk") by decide +kernel)).trans ((if_neg (show ¬ (("NoCell" : Str) = "Stopped") by decide +kernel)).trans ((if_neg (show ¬ (("NoCell" : Str) = "KeepError") by decide +kernel)).trans ((if_neg (show ¬ (("NoCell" : Str) = "NoThing") by decide +kernel)).trans (if_pos rfl))))))))⟩
  obtain ⟨A, hAC0, hAC1, hAC2, hAC3, hAC4, hAC5, hAC6, hAC7⟩ := hA
  subst hAC0
  subst hAC1
  subst hAC2
  subst hAC3
  subst hAC4
  subst hAC5
  subst hAC6
  subst hAC7
  have T : Txt K mg A := ⟨PySem.W.mg_none_of X G z_abs, PySem.W.mg_none_of X G z_int, PySem.W.mg_none_of X G z_len, PySem.W.mg_none_of X G z_range, PySem.W.mg_none_of X G z_bool, PySem.W.mg_none_of X G z_isinstance, PySem.W.mg_of X G aCC3, PySem.W.mg_of X G aCC5, PySem.W.mg_of X G aCC7, PySem.W.mg_of X G aCC2, PySem.W.mg_of X G aCC6, PySem.W.mg_of X G aCC1, PySem.W.mg_of X G aCC4, PySem.W.mg_none_of X G z_ValueError, ⟨_, PySem.W.mg_of X G v_MOST_CELLS⟩, PySem.W.mg_none_of X G z_all, ⟨_, PySem.W.mg_of X G v_MOST_NUMBER⟩, PySem.W.mg_none_of X G z_tuple, ⟨pgC0, hdC0, poC0, saC0⟩, PySem.W.mg_none_of X G z_sorted, PySem.W.mg_none_of X G z_list, PySem.W.mg_none_of X G z_zip, PySem.W.mg_none_of X G z_dict, iBadDiskNothingWaits, iNoCellNothingWaits, iNoThingNothingWaits, iNothingWaitsNothingWaits, iStoppedNothingWaits, iNoNumberNothingWaits, iBadDiskNoThing, iNoCellNoThing, iNoThingNoThing, iNothingWaitsNoThing, iStoppedNoThing, iNoNumberNoThing, iBadDiskNoCell, iNoCellNoCell, iNoThingNoCell, iNothingWaitsNoCell, iStoppedNoCell, iNoNumberNoCell, iBadDiskBadDisk, iNoCellBadDisk, iNoThingBadDisk, iNothingWaitsBadDisk, iStoppedBadDisk, iNoNumberBadDisk, iBadDiskNoNumber, iNoCellNoNumber, iNoThingNoNumber, iNothingWaitsNoNumber, iStoppedNoNumber, iNoNumberNoNumber, iBadDiskStopped, iNoCellStopped, iNoThingStopped, iNothingWaitsStopped, iStoppedStopped, iNoNumberStopped, iBadDiskValueError, iNoCellValueError, iNoThingValueError, iNothingWaitsValueError, iStoppedValueError, iNoNumberValueError, ⟨qgC2, qkC2, qsC2, qdC2, qaC2, qnC2, qtC2, qmC2⟩, ⟨qgC4, qkC4, qsC4, qdC4, qaC4, qnC4, qtC4, qmC4⟩, ⟨qgC1, qkC1, qsC1, qdC1, qaC1, qnC1, qtC1, qmC1⟩, ⟨qgC6, qkC6, qsC6, qdC6, qaC6, qnC6, qtC6, qmC6⟩, ⟨qgC7, qkC7, qsC7, qdC7, qaC7, qnC7, qtC7, qmC7⟩, ⟨qgC3, qkC3, qsC3, qdC3, qaC3, qnC3, qtC3, qmC3⟩, xNoNumberKeepError, xStoppedKeepError, xNothingWaitsKeepError, xNoThingKeepError, xNoCellKeepError, xBadDiskKeepError, ⟨exC3, ekC3, ebC3, etC3⟩, ⟨exC7, ekC7, ebC7, etC7⟩, ⟨exC6, ekC6, ebC6, etC6⟩, ⟨exC4, ekC4, ebC4, etC4⟩, ⟨exC1, ekC1, ebC1, etC1⟩, ⟨exC2, ekC2, ebC2, etC2⟩, (plain_cons ⟨pgC0, hdC0, poC0, saC0⟩ nC0_kept_lying plain_nil), (plain_cons ⟨pgC0, hdC0, poC0, saC0⟩ nC0_kept_power plain_nil), (plain_cons ⟨pgC0, hdC0, poC0, saC0⟩ nC0_kept_reached plain_nil), (plain_cons ⟨pgC0, hdC0, poC0, saC0⟩ nC0_kept_waiting plain_nil)⟩
  have F0 := fun_mk (st := st_law_hand) l0 c0 k0
  have B0 := F0.binds (ps := ["_law_script"]) fun _ _ _ _ _ _ us hl => match us, hl with | [_], _ => rfl
  have F1 := fun_mk (st := st_law_draw) l1 c1 k1
  have B1 := F1.binds (ps := ["_law_hand_here", "_law_many"]) fun _ _ _ _ _ _ us hl => match us, hl with | [_, _], _ => rfl
  have F2 := fun_mk (st := st_law_any) l2 c2 k2
  have B2 := F2.binds (ps := ["_law_hand_here", "_law_items"]) fun _ _ _ _ _ _ us hl => match us, hl with | [_, _], _ => rfl
  have F3 := fun_mk (st := st_law_nested) l3 c3 k3
  have B3 := F3.binds (ps := ["_law_hand_here"]) fun _ _ _ _ _ _ us hl => match us, hl with | [_], _ => rfl
  have F4 := fun_mk (st := st_law_is_value) l4 c4 k4
  have B4 := F4.binds (ps := ["_law_thing_here", "_law_many"]) fun _ _ _ _ _ _ us hl => match us, hl with | [_, _], _ => rfl
  have F5 := fun_mk (st := st_law_asked) l5 c5 k5
  have B5 := F5.binds (ps := ["_law_ask"]) fun _ _ _ _ _ _ us hl => match us, hl with | [_], _ => rfl
  have F6 := fun_mk (st := st_is_integer) l6 c6 k6
  have B6 := F6.binds (ps := ["thing"]) fun _ _ _ _ _ _ us hl => match us, hl with | [_], _ => rfl
  have F7 := fun_mk (st := st_is_within) l7 c7 k7
  have B7 := F7.binds (ps := ["thing", "least", "most"]) fun _ _ _ _ _ _ us hl => match us, hl with | [_, _, _], _ => rfl
  have F8 := fun_mk (st := st_Disk_init) l8 c8 k8
  have B8 := F8.binds (ps := ["self", "cells"]) fun _ _ _ _ _ _ us hl => match us, hl with | [_, _], _ => rfl
  have F9 := fun_mk (st := st_law_account) l9 c9 k9
  have B9 := F9.binds (ps := ["_law_cells"]) fun _ _ _ _ _ _ us hl => match us, hl with | [_], _ => rfl
  have F10 := fun_mk (st := st_law_thing) l10 c10 k10
  have B10 := F10.binds (ps := ["_law_hand_here"]) fun _ _ _ _ _ _ us hl => match us, hl with | [_], _ => rfl
  have F11 := fun_mk (st := st_Disk_check_cell) l11 c11 k11
  have B11 := F11.binds (ps := ["self", "cell"]) fun _ _ _ _ _ _ us hl => match us, hl with | [_, _], _ => rfl
  have F12 := fun_mk (st := st_is_thing) l12 c12 k12
  have B12 := F12.binds (ps := ["thing"]) fun _ _ _ _ _ _ us hl => match us, hl with | [_], _ => rfl
  have F13 := fun_mk (st := st_Disk_write) l13 c13 k13
  have B13 := F13.binds (ps := ["self", "cell", "thing"]) fun _ _ _ _ _ _ us hl => match us, hl with | [_, _, _], _ => rfl
  have F14 := fun_mk (st := st_Disk_reach_one) l14 c14 k14
  have B14 := F14.binds (ps := ["self", "cell"]) fun _ _ _ _ _ _ us hl => match us, hl with | [_, _], _ => rfl
  have F15 := fun_mk (st := st_Disk_reach) l15 c15 k15
  have B15 := F15.binds (ps := ["self", "cell"]) fun _ _ _ _ _ _ us hl => match us, hl with | [_, _], _ => rfl
  have F16 := fun_mk (st := st_law_reached) l16 c16 k16
  have B16 := F16.binds (ps := ["_law_account_here", "_law_cell"]) fun _ _ _ _ _ _ us hl => match us, hl with | [_, _], _ => rfl
  have F17 := fun_mk (st := st_law_calmed) l17 c17 k17
  have B17 := F17.binds (ps := ["_law_account_here"]) fun _ _ _ _ _ _ us hl => match us, hl with | [_], _ => rfl
  have F18 := fun_mk (st := st_Disk_calm) l18 c18 k18
  have B18 := F18.binds (ps := ["self"]) fun _ _ _ _ _ _ us hl => match us, hl with | [_], _ => rfl
  have F19 := fun_mk (st := st_law_lost) l19 c19 k19
  have B19 := F19.binds (ps := ["_law_account_here"]) fun _ _ _ _ _ _ us hl => match us, hl with | [_], _ => rfl
  have F20 := fun_mk (st := st_Disk_cut) l20 c20 k20
  have B20 := F20.binds (ps := ["self"]) fun _ _ _ _ _ _ us hl => match us, hl with | [_], _ => rfl
  have F21 := fun_mk (st := st_Disk_power) l21 c21 k21
  have B21 := F21.binds (ps := ["self", "many"]) fun _ _ _ _ _ _ us hl => match us, hl with | [_, _], _ => rfl
  have F22 := fun_mk (st := st_law_deed) l22 c22 k22
  have B22 := F22.binds (ps := ["_law_hand_here", "_law_disk", "_law_account_here"]) fun _ _ _ _ _ _ us hl => match us, hl with | [_, _, _], _ => rfl
  have F23 := fun_mk (st := st_Disk_read) l23 c23 k23
  have B23 := F23.binds (ps := ["self", "cell"]) fun _ _ _ _ _ _ us hl => match us, hl with | [_, _], _ => rfl
  have F24 := fun_mk (st := st_Disk_lying) l24 c24 k24
  have B24 := F24.binds (ps := ["self", "cell"]) fun _ _ _ _ _ _ us hl => match us, hl with | [_, _], _ => rfl
  have F25 := fun_mk (st := st_law_odd_right) l25 c25 k25
  have B25 := F25.binds (ps := ["_law_hand_here", "_law_disk", "_law_account_here"]) fun _ _ _ _ _ _ us hl => match us, hl with | [_, _, _], _ => rfl
  have F26 := fun_mk (st := st_law_is) l26 c26 k26
  have B26 := F26.binds (ps := ["_law_given", "_law_due"]) fun _ _ _ _ _ _ us hl => match us, hl with | [_, _], _ => rfl
  have F27 := fun_mk (st := st_Disk_waiting) l27 c27 k27
  have B27 := F27.binds (ps := ["self"]) fun _ _ _ _ _ _ us hl => match us, hl with | [_], _ => rfl
  have F28 := fun_mk (st := st_Disk_reached) l28 c28 k28
  have B28 := F28.binds (ps := ["self"]) fun _ _ _ _ _ _ us hl => match us, hl with | [_], _ => rfl
  have F29 := fun_mk (st := st_Disk_used) l29 c29 k29
  have B29 := F29.binds (ps := ["self"]) fun _ _ _ _ _ _ us hl => match us, hl with | [_], _ => rfl
  have F30 := fun_mk (st := st_Disk_many_cells) l30 c30 k30
  have B30 := F30.binds (ps := ["self"]) fun _ _ _ _ _ _ us hl => match us, hl with | [_], _ => rfl
  have F31 := fun_mk (st := st_law_disk_is) l31 c31 k31
  have B31 := F31.binds (ps := ["_law_disk", "_law_account_here"]) fun _ _ _ _ _ _ us hl => match us, hl with | [_, _], _ => rfl
  have F32 := fun_mk (st := st_law) l32 c32 k32
  letI tbs : Tbs := { T := [(tt22, "_law_deed" ++ ".<locals>." ++ "<lambda>"), (tt25, "_law_odd_right" ++ ".<locals>." ++ "<lambda>"), (tt32, "law" ++ ".<locals>." ++ "<lambda>")] }
  have tC : ∀ p ∈ [(cc22, tt22), (cc25, tt25), (cc32, tt32)], h.get? p.2 = some (PySem.W.tabObj #[]) := (List.forall_mem_cons.mpr ⟨lamt22, (List.forall_mem_cons.mpr ⟨lamt25, (List.forall_mem_cons.mpr ⟨lamt32, (fun _ h => nomatch h)⟩)⟩)⟩)
  have tN : ∀ p ∈ [(cc22, tt22), (cc25, tt25), (cc32, tt32)], K.lookup p.2 = none := (List.forall_mem_cons.mpr ⟨lamn22, (List.forall_mem_cons.mpr ⟨lamn25, (List.forall_mem_cons.mpr ⟨lamn32, (fun _ h => nomatch h)⟩)⟩)⟩)
  have tH : ∀ p ∈ [(cc22, tt22), (cc25, tt25), (cc32, tt32)], PySem.W.CodeHd h p.1 p.2 := (List.forall_mem_cons.mpr ⟨(PySem.W.codeHd_of_K X lamh22), (List.forall_mem_cons.mpr ⟨(PySem.W.codeHd_of_K X lamh25), (List.forall_mem_cons.mpr ⟨(PySem.W.codeHd_of_K X lamh32), (fun _ h => nomatch h)⟩)⟩)⟩)
  refine ⟨PySem.W.fnOf "law" "law" (defArgs st_law) (defBody st_law) (defScope st_law) .none kV32 dc32 pm32 an32 cd32 ct32, [(cc22, tt22), (cc25, tt25), (cc32, tt32)], spLawT K, tC, tN, tH, fun s v => .of_eq rfl, fun H a ns hl _ hH hS => ⟨a, ns, rfl, hS, hl, ?_, fun _ => rfl⟩, fun base _ _ hTB => ?_⟩
  · exact (List.forall_mem_cons.mpr ⟨(hH (cc22, tt22) (by simp)), (List.forall_mem_cons.mpr ⟨(hH (cc25, tt25) (by simp)), (List.forall_mem_cons.mpr ⟨(hH (cc32, tt32) (by simp)), (fun _ h => nomatch h)⟩)⟩)⟩)
  have L22 : LamOf base mg cd22 "_law_deed" := ⟨cc22, tt22, lame22, hTB (cc22, tt22) (by simp), (by exact List.mem_cons_self), (List.forall_mem_cons.mpr ⟨(fun _ => rfl), (List.forall_mem_cons.mpr ⟨(fun e => absurd e.symm lamd22x25), (List.forall_mem_cons.mpr ⟨(fun e => absurd e.symm lamd22x32), (fun _ h => nomatch h)⟩)⟩)⟩)⟩
  have L25 : LamOf base mg cd25 "_law_odd_right" := ⟨cc25, tt25, lame25, hTB (cc25, tt25) (by simp), (by exact (List.mem_cons_of_mem _ List.mem_cons_self)), (List.forall_mem_cons.mpr ⟨(fun e => absurd e lamd22x25), (List.forall_mem_cons.mpr ⟨(fun _ => rfl), (List.forall_mem_cons.mpr ⟨(fun e => absurd e.symm lamd25x32), (fun _ h => nomatch h)⟩)⟩)⟩)⟩
  have L32 : LamOf base mg cd32 "law" := ⟨cc32, tt32, lame32, hTB (cc32, tt32) (by simp), (by exact (List.mem_cons_of_mem _ (List.mem_cons_of_mem _ List.mem_cons_self))), (List.forall_mem_cons.mpr ⟨(fun e => absurd e lamd22x32), (List.forall_mem_cons.mpr ⟨(fun e => absurd e lamd25x32), (List.forall_mem_cons.mpr ⟨(fun _ => rfl), (fun _ h => nomatch h)⟩)⟩)⟩)⟩
  have K_law_hand : Ks l.prog w K mg base "_law_hand" 1 ["_law_script"] (l_law_hand A) := ⟨_, _, PySem.W.mg_of X G a0, k0, B0, d_law_hand (P := l.prog) (w := w) (base := base) T  F0⟩
  have K_law_draw : Kn l.prog w K mg base "_law_draw" 1 ["_law_hand_here", "_law_many"] (l_law_draw A) := ⟨_, _, PySem.W.mg_of X G a1, k1, B1, d_law_draw (P := l.prog) (w := w) (base := base) T  F1⟩
  have K_law_any : Kn l.prog w K mg base "_law_any" 2 ["_law_hand_here", "_law_items"] (l_law_any A) := ⟨_, _, PySem.W.mg_of X G a2, k2, B2, d_law_any (P := l.prog) (w := w) (base := base) T K_law_draw F2⟩
  have K_law_nested : Kn l.prog w K mg base "_law_nested" 3 ["_law_hand_here"] (l_law_nested A) := ⟨_, _, PySem.W.mg_of X G a3, k3, B3, d_law_nested (P := l.prog) (w := w) (base := base) T K_law_any F3⟩
  have K_law_is_value : Kn l.prog w K mg base "_law_is_value" 1 ["_law_thing_here", "_law_many"] (l_law_is_value A) := ⟨_, _, PySem.W.mg_of X G a4, k4, B4, d_law_is_value (P := l.prog) (w := w) (base := base) T  F4⟩
  have K_law_asked : Kl l.prog w K mg base "_law_asked" 6 (l_law_asked_3 A) := ⟨f5, "_law_ask", _, _, _, _, _, _, _, _, _, _, _, _, _, ["_law_ask", "_law_found", "e", "_law_flags"], _, PySem.W.mg_of X G a5, k5, l5, c5, B5, sc_law_asked, rfl, .inl rfl, ⟨by decide, by decide⟩, fun _ _ => rfl, d_law_asked (P := l.prog) (w := w) (base := base) T ⟩
  have Kt_is_integer : ∀ [t2 : Tbs], Kn l.prog w K mg base "is_integer" 1 ["thing"] (l_is_integer A) := fun [t2 : Tbs] => ⟨_, _, PySem.W.mg_of X G a6, k6, B6, d_is_integer (P := l.prog) (w := w) (base := base) T  F6⟩
  have K_is_integer : Kn l.prog w K mg base "is_integer" 1 ["thing"] (l_is_integer A) := Kt_is_integer
  have Kt_is_within : ∀ [t2 : Tbs], Kn l.prog w K mg base "is_within" 2 ["thing", "least", "most"] (l_is_within A) := fun [t2 : Tbs] => ⟨_, _, PySem.W.mg_of X G a7, k7, B7, d_is_within (P := l.prog) (w := w) (base := base) T Kt_is_integer F7⟩
  have K_is_within : Kn l.prog w K mg base "is_within" 2 ["thing", "least", "most"] (l_is_within A) := Kt_is_within
  have Kt_Disk_init : ∀ [t2 : Tbs], Kc l.prog w K mg base "Disk" (A "Disk") 3 ["self", "cells"] (l_Disk_init_2 A) := fun [t2 : Tbs] => ⟨_, _, ⟨⟨pgC0, hdC0, poC0, saC0⟩, oaC0, onC0, otC0, omC0, iC0tuple, iC0int, iC0bool, iC0list, iC0dict, iC0str⟩, ⟨mkC0, a8, i8, kcC0⟩, PySem.W.mg_of X G aCC0, B8, d_Disk_init (P := l.prog) (w := w) (base := base) T Kt_is_within F8⟩
  have K_Disk_init : Kc l.prog w K mg base "Disk" (A "Disk") 3 ["self", "cells"] (l_Disk_init_2 A) := Kt_Disk_init
  have K_law_account : Kn l.prog w K mg base "_law_account" 1 ["_law_cells"] (l_law_account A) := ⟨_, _, PySem.W.mg_of X G a9, k9, B9, d_law_account (P := l.prog) (w := w) (base := base) T  F9⟩
  have K_law_thing : Kn l.prog w K mg base "_law_thing" 3 ["_law_hand_here"] (l_law_thing A) := ⟨_, _, PySem.W.mg_of X G a10, k10, B10, d_law_thing (P := l.prog) (w := w) (base := base) T K_law_draw K_law_any F10⟩
  have Kt_Disk_check_cell : ∀ [t2 : Tbs], Km l.prog w K mg base (A "Disk") "check_cell" 3 ["self", "cell"] (l_Disk_check_cell_2 A) := fun [t2 : Tbs] => ⟨_, _, ⟨a11, i11, k11⟩, B11, d_Disk_check_cell (P := l.prog) (w := w) (base := base) T Kt_is_within F11⟩
  have K_Disk_check_cell : Km l.prog w K mg base (A "Disk") "check_cell" 3 ["self", "cell"] (l_Disk_check_cell_2 A) := Kt_Disk_check_cell
  have Kt_is_thing : ∀ [t2 : Tbs], Kn l.prog w K mg base "is_thing" 3 ["thing"] (l_is_thing A) := fun [t2 : Tbs] => ⟨_, _, PySem.W.mg_of X G a12, k12, B12, d_is_thing (P := l.prog) (w := w) (base := base) T Kt_is_within F12⟩
  have K_is_thing : Kn l.prog w K mg base "is_thing" 3 ["thing"] (l_is_thing A) := Kt_is_thing
  have Kt_Disk_write : ∀ [t2 : Tbs], Km l.prog w K mg base (A "Disk") "write" 4 ["self", "cell", "thing"] (l_Disk_write_2 A) := fun [t2 : Tbs] => ⟨_, _, ⟨a13, i13, k13⟩, B13, d_Disk_write (P := l.prog) (w := w) (base := base) T Kt_Disk_check_cell Kt_is_thing F13⟩
  have K_Disk_write : Km l.prog w K mg base (A "Disk") "write" 4 ["self", "cell", "thing"] (l_Disk_write_2 A) := Kt_Disk_write
  have Kt_Disk_reach_one : ∀ [t2 : Tbs], Km l.prog w K mg base (A "Disk") "reach_one" 1 ["self", "cell"] (l_Disk_reach_one A) := fun [t2 : Tbs] => ⟨_, _, ⟨a14, i14, k14⟩, B14, d_Disk_reach_one (P := l.prog) (w := w) (base := base) T  F14⟩
  have K_Disk_reach_one : Km l.prog w K mg base (A "Disk") "reach_one" 1 ["self", "cell"] (l_Disk_reach_one A) := Kt_Disk_reach_one
  have Kt_Disk_reach : ∀ [t2 : Tbs], Km l.prog w K mg base (A "Disk") "reach" 4 ["self", "cell"] (l_Disk_reach_3 A) := fun [t2 : Tbs] => ⟨_, _, ⟨a15, i15, k15⟩, B15, d_Disk_reach (P := l.prog) (w := w) (base := base) T Kt_Disk_check_cell Kt_Disk_reach_one F15⟩
  have K_Disk_reach : Km l.prog w K mg base (A "Disk") "reach" 4 ["self", "cell"] (l_Disk_reach_3 A) := Kt_Disk_reach
  have K_law_reached : Kn l.prog w K mg base "_law_reached" 1 ["_law_account_here", "_law_cell"] (l_law_reached A) := ⟨_, _, PySem.W.mg_of X G a16, k16, B16, d_law_reached (P := l.prog) (w := w) (base := base) T  F16⟩
  have K_law_calmed : Kn l.prog w K mg base "_law_calmed" 2 ["_law_account_here"] (l_law_calmed A) := ⟨_, _, PySem.W.mg_of X G a17, k17, B17, d_law_calmed (P := l.prog) (w := w) (base := base) T K_law_reached F17⟩
  have Kt_Disk_calm : ∀ [t2 : Tbs], Km l.prog w K mg base (A "Disk") "calm" 2 ["self"] (l_Disk_calm A) := fun [t2 : Tbs] => ⟨_, _, ⟨a18, i18, k18⟩, B18, d_Disk_calm (P := l.prog) (w := w) (base := base) T Kt_Disk_reach_one F18⟩
  have K_Disk_calm : Km l.prog w K mg base (A "Disk") "calm" 2 ["self"] (l_Disk_calm A) := Kt_Disk_calm
  have K_law_lost : Kn l.prog w K mg base "_law_lost" 1 ["_law_account_here"] (l_law_lost A) := ⟨_, _, PySem.W.mg_of X G a19, k19, B19, d_law_lost (P := l.prog) (w := w) (base := base) T  F19⟩
  have Kt_Disk_cut : ∀ [t2 : Tbs], Km l.prog w K mg base (A "Disk") "cut" 1 ["self"] (l_Disk_cut A) := fun [t2 : Tbs] => ⟨_, _, ⟨a20, i20, k20⟩, B20, d_Disk_cut (P := l.prog) (w := w) (base := base) T  F20⟩
  have K_Disk_cut : Km l.prog w K mg base (A "Disk") "cut" 1 ["self"] (l_Disk_cut A) := Kt_Disk_cut
  have Kt_Disk_power : ∀ [t2 : Tbs], Km l.prog w K mg base (A "Disk") "power" 3 ["self", "many"] (l_Disk_power_2 A) := fun [t2 : Tbs] => ⟨_, _, ⟨a21, i21, k21⟩, B21, d_Disk_power (P := l.prog) (w := w) (base := base) T Kt_is_within F21⟩
  have K_Disk_power : Km l.prog w K mg base (A "Disk") "power" 3 ["self", "many"] (l_Disk_power_2 A) := Kt_Disk_power
  have K_law_deed : Kn l.prog w K mg base "_law_deed" 8 ["_law_hand_here", "_law_disk", "_law_account_here"] (l_law_deed_2 A) := ⟨_, _, PySem.W.mg_of X G a22, k22, B22, d_law_deed (P := l.prog) (w := w) (base := base) T K_law_draw K_law_thing K_law_asked K_Disk_write K_Disk_reach K_law_reached K_law_calmed K_Disk_calm K_law_lost K_Disk_cut K_law_any K_Disk_power Kt_Disk_write  Kt_Disk_reach  Kt_Disk_calm  Kt_Disk_cut  Kt_Disk_power F22 L22⟩
  have Kt_Disk_read : ∀ [t2 : Tbs], Km l.prog w K mg base (A "Disk") "read" 4 ["self", "cell"] (l_Disk_read_2 A) := fun [t2 : Tbs] => ⟨_, _, ⟨a23, i23, k23⟩, B23, d_Disk_read (P := l.prog) (w := w) (base := base) T Kt_Disk_check_cell F23⟩
  have K_Disk_read : Km l.prog w K mg base (A "Disk") "read" 4 ["self", "cell"] (l_Disk_read_2 A) := Kt_Disk_read
  have Kt_Disk_lying : ∀ [t2 : Tbs], Km l.prog w K mg base (A "Disk") "lying" 4 ["self", "cell"] (l_Disk_lying_2 A) := fun [t2 : Tbs] => ⟨_, _, ⟨a24, i24, k24⟩, B24, d_Disk_lying (P := l.prog) (w := w) (base := base) T Kt_Disk_check_cell F24⟩
  have K_Disk_lying : Km l.prog w K mg base (A "Disk") "lying" 4 ["self", "cell"] (l_Disk_lying_2 A) := Kt_Disk_lying
  have K_law_odd_right : Kn l.prog w K mg base "_law_odd_right" 8 ["_law_hand_here", "_law_disk", "_law_account_here"] (l_law_odd_right A) := ⟨_, _, PySem.W.mg_of X G a25, k25, B25, d_law_odd_right (P := l.prog) (w := w) (base := base) T K_law_nested K_law_draw K_law_any K_law_is_value K_law_asked K_Disk_write K_Disk_read K_Disk_lying K_Disk_power K_law_reached K_Disk_reach Kt_Disk_write  Kt_Disk_read  Kt_Disk_lying  Kt_Disk_power  Kt_Disk_reach F25 L25⟩
  have K_law_is_0 : Kn l.prog w K mg base "_law_is" 0 ["_law_given", "_law_due"] (l_law_is_2 A 0) := ⟨_, _, PySem.W.mg_of X G a26, k26, B26, fnD_bad⟩
  have K_law_is_1 : Kn l.prog w K mg base "_law_is" 1 ["_law_given", "_law_due"] (l_law_is_2 A 1) := ⟨_, _, PySem.W.mg_of X G a26, k26, B26, d_law_is (P := l.prog) (w := w) (base := base) (j := 0) T (by decide)  K_law_is_0 F26⟩
  have K_law_is_2 : Kn l.prog w K mg base "_law_is" 2 ["_law_given", "_law_due"] (l_law_is_2 A 2) := ⟨_, _, PySem.W.mg_of X G a26, k26, B26, d_law_is (P := l.prog) (w := w) (base := base) (j := 1) T (by decide)  K_law_is_1 F26⟩
  have K_law_is_3 : Kn l.prog w K mg base "_law_is" 3 ["_law_given", "_law_due"] (l_law_is_2 A 3) := ⟨_, _, PySem.W.mg_of X G a26, k26, B26, d_law_is (P := l.prog) (w := w) (base := base) (j := 2) T (by decide)  K_law_is_2 F26⟩
  have K_law_is_4 : Kn l.prog w K mg base "_law_is" 4 ["_law_given", "_law_due"] (l_law_is_2 A 4) := ⟨_, _, PySem.W.mg_of X G a26, k26, B26, d_law_is (P := l.prog) (w := w) (base := base) (j := 3) T (by decide)  K_law_is_3 F26⟩
  have K_law_is_5 : Kn l.prog w K mg base "_law_is" 5 ["_law_given", "_law_due"] (l_law_is_2 A 5) := ⟨_, _, PySem.W.mg_of X G a26, k26, B26, d_law_is (P := l.prog) (w := w) (base := base) (j := 4) T (by decide)  K_law_is_4 F26⟩
  have K_law_is_6 : Kn l.prog w K mg base "_law_is" 6 ["_law_given", "_law_due"] (l_law_is_2 A 6) := ⟨_, _, PySem.W.mg_of X G a26, k26, B26, d_law_is (P := l.prog) (w := w) (base := base) (j := 5) T (by decide)  K_law_is_5 F26⟩
  have K_law_is_7 : Kn l.prog w K mg base "_law_is" 7 ["_law_given", "_law_due"] (l_law_is_2 A 7) := ⟨_, _, PySem.W.mg_of X G a26, k26, B26, d_law_is (P := l.prog) (w := w) (base := base) (j := 6) T (by decide)  K_law_is_6 F26⟩
  have K_law_is : Kn l.prog w K mg base "_law_is" 8 ["_law_given", "_law_due"] (l_law_is_2 A 8) := ⟨_, _, PySem.W.mg_of X G a26, k26, B26, d_law_is (P := l.prog) (w := w) (base := base) (j := 7) T (by decide)  K_law_is_7 F26⟩
  have K_Disk_waiting : Km l.prog w K mg base (A "Disk") "waiting" 1 ["self"] (l_Disk_waiting A) := ⟨_, _, ⟨a27, i27, k27⟩, B27, d_Disk_waiting (P := l.prog) (w := w) (base := base) T  F27⟩
  have K_Disk_reached : Km l.prog w K mg base (A "Disk") "reached" 1 ["self"] (l_Disk_reached A) := ⟨_, _, ⟨a28, i28, k28⟩, B28, d_Disk_reached (P := l.prog) (w := w) (base := base) T  F28⟩
  have K_Disk_used : Km l.prog w K mg base (A "Disk") "used" 1 ["self"] (l_Disk_used A) := ⟨_, _, ⟨a29, i29, k29⟩, B29, d_Disk_used (P := l.prog) (w := w) (base := base) T  F29⟩
  have K_Disk_many_cells : Km l.prog w K mg base (A "Disk") "many_cells" 1 ["self"] (l_Disk_many_cells A) := ⟨_, _, ⟨a30, i30, k30⟩, B30, d_Disk_many_cells (P := l.prog) (w := w) (base := base) T  F30⟩
  have K_law_disk_is : Kn l.prog w K mg base "_law_disk_is" 9 ["_law_disk", "_law_account_here"] (l_law_disk_is_2 A) := ⟨_, _, PySem.W.mg_of X G a31, k31, B31, d_law_disk_is (P := l.prog) (w := w) (base := base) T K_law_is K_Disk_lying K_Disk_read K_Disk_waiting K_Disk_reached K_Disk_used K_Disk_many_cells F31⟩
  refine FnOk.imp (d_law (P := l.prog) (w := w) (base := base) T K_law_hand K_law_any K_law_nested K_law_is_value K_law_asked K_Disk_init K_law_draw K_law_account K_law_deed K_law_odd_right K_law_disk_is Kt_Disk_init F32 L32) fun vs H Q E ⟨a, ns, e1, e2, e3, hT, q⟩ => ⟨a, ns, [], [], e1, e3, e2, rs_nilT hT, ?_⟩
  obtain ⟨s, hs⟩ := law_true A ns e3 a (by intro e; have h1 := T.i_BadDisk_NoCell; have h2 := T.i_BadDisk_BadDisk; rw [e] at h1 h2; rw [h2] at h1; cases h1) (by intro e; have h1 := T.i_BadDisk_NoThing; have h2 := T.i_BadDisk_BadDisk; rw [e] at h1 h2; rw [h2] at h1; cases h1) (by intro e; have h1 := T.i_BadDisk_NothingWaits; have h2 := T.i_BadDisk_BadDisk; rw [e] at h1 h2; rw [h2] at h1; cases h1) (by intro e; have h1 := T.i_BadDisk_Stopped; have h2 := T.i_BadDisk_BadDisk; rw [e] at h1 h2; rw [h2] at h1; cases h1) (by intro e; have h1 := T.i_BadDisk_NoNumber; have h2 := T.i_BadDisk_BadDisk; rw [e] at h1 h2; rw [h2] at h1; cases h1) (by intro e; have h1 := T.i_NoCell_BadDisk; have h2 := T.i_NoCell_NoCell; rw [e] at h1 h2; rw [h2] at h1; cases h1) (by intro e; have h1 := T.i_NoCell_NoThing; have h2 := T.i_NoCell_NoCell; rw [e] at h1 h2; rw [h2] at h1; cases h1) (by intro e; have h1 := T.i_NoCell_NothingWaits; have h2 := T.i_NoCell_NoCell; rw [e] at h1 h2; rw [h2] at h1; cases h1) (by intro e; have h1 := T.i_NoCell_Stopped; have h2 := T.i_NoCell_NoCell; rw [e] at h1 h2; rw [h2] at h1; cases h1) (by intro e; have h1 := T.i_NoCell_NoNumber; have h2 := T.i_NoCell_NoCell; rw [e] at h1 h2; rw [h2] at h1; cases h1) (by intro e; have h1 := T.i_NoThing_BadDisk; have h2 := T.i_NoThing_NoThing; rw [e] at h1 h2; rw [h2] at h1; cases h1) (by intro e; have h1 := T.i_NoThing_NoCell; have h2 := T.i_NoThing_NoThing; rw [e] at h1 h2; rw [h2] at h1; cases h1) (by intro e; have h1 := T.i_NoThing_NothingWaits; have h2 := T.i_NoThing_NoThing; rw [e] at h1 h2; rw [h2] at h1; cases h1) (by intro e; have h1 := T.i_NoThing_Stopped; have h2 := T.i_NoThing_NoThing; rw [e] at h1 h2; rw [h2] at h1; cases h1) (by intro e; have h1 := T.i_NoThing_NoNumber; have h2 := T.i_NoThing_NoThing; rw [e] at h1 h2; rw [h2] at h1; cases h1) (by intro e; have h1 := T.i_NothingWaits_BadDisk; have h2 := T.i_NothingWaits_NothingWaits; rw [e] at h1 h2; rw [h2] at h1; cases h1) (by intro e; have h1 := T.i_NothingWaits_NoCell; have h2 := T.i_NothingWaits_NothingWaits; rw [e] at h1 h2; rw [h2] at h1; cases h1) (by intro e; have h1 := T.i_NothingWaits_NoThing; have h2 := T.i_NothingWaits_NothingWaits; rw [e] at h1 h2; rw [h2] at h1; cases h1) (by intro e; have h1 := T.i_NothingWaits_Stopped; have h2 := T.i_NothingWaits_NothingWaits; rw [e] at h1 h2; rw [h2] at h1; cases h1) (by intro e; have h1 := T.i_NothingWaits_NoNumber; have h2 := T.i_NothingWaits_NothingWaits; rw [e] at h1 h2; rw [h2] at h1; cases h1) (by intro e; have h1 := T.i_Stopped_BadDisk; have h2 := T.i_Stopped_Stopped; rw [e] at h1 h2; rw [h2] at h1; cases h1) (by intro e; have h1 := T.i_Stopped_NoCell; have h2 := T.i_Stopped_Stopped; rw [e] at h1 h2; rw [h2] at h1; cases h1) (by intro e; have h1 := T.i_Stopped_NoThing; have h2 := T.i_Stopped_Stopped; rw [e] at h1 h2; rw [h2] at h1; cases h1) (by intro e; have h1 := T.i_Stopped_NothingWaits; have h2 := T.i_Stopped_Stopped; rw [e] at h1 h2; rw [h2] at h1; cases h1) (by intro e; have h1 := T.i_Stopped_NoNumber; have h2 := T.i_Stopped_Stopped; rw [e] at h1 h2; rw [h2] at h1; cases h1) (by intro e; have h1 := T.i_NoNumber_BadDisk; have h2 := T.i_NoNumber_NoNumber; rw [e] at h1 h2; rw [h2] at h1; cases h1) (by intro e; have h1 := T.i_NoNumber_NoCell; have h2 := T.i_NoNumber_NoNumber; rw [e] at h1 h2; rw [h2] at h1; cases h1) (by intro e; have h1 := T.i_NoNumber_NoThing; have h2 := T.i_NoNumber_NoNumber; rw [e] at h1 h2; rw [h2] at h1; cases h1) (by intro e; have h1 := T.i_NoNumber_NothingWaits; have h2 := T.i_NoNumber_NoNumber; rw [e] at h1 h2; rw [h2] at h1; cases h1) (by intro e; have h1 := T.i_NoNumber_Stopped; have h2 := T.i_NoNumber_NoNumber; rw [e] at h1 h2; rw [h2] at h1; cases h1)
  exact pf_true hs q
theorem walk {l : PySem.W.OpenLaw} {q : Program} {loose : List Str} {XP : (Str → Option Value) → Heap → Prop} {YP : World → Heap → Prop} {d : DefRec} {K : Params → PySem.W.Frag} (hn : l.most = some 63) (hdf : d.params.defaults = [])
    (hY : ∀ (w : World) (h : Heap), YP w h → (K w.params).In h)
    (F : ∀ (w : World) (mg : Str → Option Value) (fa : Addr) (h : Heap), YP w h → (K w.params).In h → h.Ns mainGlobals mg → mg d.name = some (.ref fa) → LamX.LawAtS l w (K w.params) (L2.CX l.prog w) 10 63 "_law_script" mg fa h) :
    PySem.W.WalkO q loose XP YP l.row.toRowW d [] (fun f vs => PySem.call f vs) :=
  LamX.walk_ofTs (n := 63) (k := 10) (x := "_law_script") (CX := fun w => L2.CX l.prog w) hn (by decide) hdf ⟨rfl, by decide, by decide⟩ hY F fun _ _ _ _ _ z => cx_none z
end M48
open PySem PySem.W PyProof.Rows in
set_option maxRecDepth 100000 in
set_option maxHeartbeats 0 in
theorem PySem.Challenge.cw_lightfirst_k48_disks_refused_holds : PySem.Challenge.rw_lightfirst_k48_disks_refused.Holds := by
  w_on; o_law; k_head; (case hw => w_witness2)
  k_fill
  refine M48.walk (l := PySem.Challenge.rw_lightfirst_k48_disks_refused) rfl rfl (fun w h Y => PySem.W.km_in_of Y) ?F
  case F =>
    intro w mg fa h Y KX G hmg
    have hT8 := PySem.W.km_tabs_of Y
    refine' M48.all_mk KX G hmg ?aCC0 ?aCC1 ?aCC2 ?aCC3 ?aCC4 ?aCC5 ?aCC6 ?aCC7 ?a0 ?l0 ?c0 ?k0 ?a1 ?l1 ?c1 ?k1 ?a2 ?l2 ?c2 ?k2 ?a3 ?l3 ?c3 ?k3 ?a4 ?l4 ?c4 ?k4 ?a5 ?l5 ?c5 ?k5 ?a6 ?l6 ?c6 ?k6 ?a7 ?l7 ?c7 ?k7 ?a8 ?i8 ?l8 ?c8 ?k8 ?a9 ?l9 ?c9 ?k9 ?a10 ?l10 ?c10 ?k10 ?a11 ?i11 ?l11 ?c11 ?k11 ?a12 ?l12 ?c12 ?k12 ?a13 ?i13 ?l13 ?c13 ?k13 ?a14 ?i14 ?l14 ?c14 ?k14 ?a15 ?i15 ?l15 ?c15 ?k15 ?a16 ?l16 ?c16 ?k16 ?a17 ?l17 ?c17 ?k17 ?a18 ?i18 ?l18 ?c18 ?k18 ?a19 ?l19 ?c19 ?k19 ?a20 ?i20 ?l20 ?c20 ?k20 ?a21 ?i21 ?l21 ?c21 ?k21 ?a22 ?l22 ?c22 ?k22 ?a23 ?i23 ?l23 ?c23 ?k23 ?a24 ?i24 ?l24 ?c24 ?k24 ?a25 ?l25 ?c25 ?k25 ?a26 ?l26 ?c26 ?k26 ?a27 ?i27 ?l27 ?c27 ?k27 ?a28 ?i28 ?l28 ?c28 ?k28 ?a29 ?i29 ?l29 ?c29 ?k29 ?a30 ?i30 ?l30 ?c30 ?k30 ?a31 ?l31 ?c31 ?k31 ?a32 ?l32 ?c32 ?k32 ?pgC0 ?hdC0 ?poC0 ?saC0 ?mkC0 ?kcC0 ?oaC0 ?onC0 ?otC0 ?omC0 ?iC0tuple ?iC0int ?iC0bool ?iC0list ?iC0dict ?iC0str ?nC0_kept_lying ?nC0_kept_waiting ?nC0_kept_power ?nC0_kept_reached ?z_abs ?z_int ?z_len ?z_range ?z_bool ?z_isinstance ?z_ValueError ?v_MOST_CELLS ?z_all ?v_MOST_NUMBER ?z_tuple ?z_sorted ?z_list ?z_zip ?z_dict ?iBadDiskNothingWaits ?iNoCellNothingWaits ?iNoThingNothingWaits ?iNothingWaitsNothingWaits ?iStoppedNothingWaits ?iNoNumberNothingWaits ?iBadDiskNoThing ?iNoCellNoThing ?iNoThingNoThing ?iNothingWaitsNoThing ?iStoppedNoThing ?iNoNumberNoThing ?iBadDiskNoCell ?iNoCellNoCell ?iNoThingNoCell ?iNothingWaitsNoCell ?iStoppedNoCell ?iNoNumberNoCell ?iBadDiskBadDisk ?iNoCellBadDisk ?iNoThingBadDisk ?iNothingWaitsBadDisk ?iStoppedBadDisk ?iNoNumberBadDisk ?iBadDiskNoNumber ?iNoCellNoNumber ?iNoThingNoNumber ?iNothingWaitsNoNumber ?iStoppedNoNumber ?iNoNumberNoNumber ?iBadDiskStopped ?iNoCellStopped ?iNoThingStopped ?iNothingWaitsStopped ?iStoppedStopped ?iNoNumberStopped ?iBadDiskValueError ?iNoCellValueError ?iNoThingValueError ?iNothingWaitsValueError ?iStoppedValueError ?iNoNumberValueError ?qgC2 ?qkC2 ?qsC2 ?qdC2 ?qaC2 ?qnC2 ?qtC2 ?qmC2 ?qgC4 ?qkC4 ?qsC4 ?qdC4 ?qaC4 ?qnC4 ?qtC4 ?qmC4 ?qgC1 ?qkC1 ?qsC1 ?qdC1 ?qaC1 ?qnC1 ?qtC1 ?qmC1 ?qgC6 ?qkC6 ?qsC6 ?qdC6 ?qaC6 ?qnC6 ?qtC6 ?qmC6 ?qgC7 ?qkC7 ?qsC7 ?qdC7 ?qaC7 ?qnC7 ?qtC7 ?qmC7 ?qgC3 ?qkC3 ?qsC3 ?qdC3 ?qaC3 ?qnC3 ?qtC3 ?qmC3 ?xNoNumberKeepError ?xStoppedKeepError ?xNothingWaitsKeepError ?xNoThingKeepError ?xNoCellKeepError ?xBadDiskKeepError ?exC3 ?ekC3 ?ebC3 ?etC3 ?exC7 ?ekC7 ?ebC7 ?etC7 ?exC6 ?ekC6 ?ebC6 ?etC6 ?exC4 ?ekC4 ?ebC4 ?etC4 ?exC1 ?ekC1 ?ebC1 ?etC1 ?exC2 ?ekC2 ?ebC2 ?etC2 ?lame22 ?laml22 ?lamv22 ?lamh22 ?lamn22 ?lamt22 ?lame25 ?laml25 ?lamv25 ?lamh25 ?lamn25 ?lamt25 ?lame32 ?laml32 ?lamv32 ?lamh32 ?lamn32 ?lamt32 ?lamd22x25 ?lamd22x32 ?lamd25x32
    (case aCC0 => k_is)
    (case aCC1 => k_is)
    (case aCC2 => k_is)
    (case aCC3 => k_is)
    (case aCC4 => k_is)
    (case aCC5 => k_is)
    (case aCC6 => k_is)
    (case aCC7 => k_is)
    (case a0 => k_is)
    (case l0 => k_is)
    (case c0 => k_is)
    (case k0 => k_is)
    (case a1 => k_is)
    (case l1 => k_is)
    (case c1 => k_is)
    (case k1 => k_is)
    (case a2 => k_is)
    (case l2 => k_is)
    (case c2 => k_is)
    (case k2 => k_is)
    (case a3 => k_is)
    (case l3 => k_is)
    (case c3 => k_is)
    (case k3 => k_is)
    (case a4 => k_is)
    (case l4 => k_is)
    (case c4 => k_is)
    (case k4 => k_is)
    (case a5 => k_is)
    (case l5 => k_is)
    (case c5 => k_is)
    (case k5 => k_is)
    (case a6 => k_is)
    (case l6 => k_is)
    (case c6 => k_is)
    (case k6 => k_is)
    (case a7 => k_is)
    (case l7 => k_is)
    (case c7 => k_is)
    (case k7 => k_is)
    (case a8 => k_is)
    (case i8 => k_is)
    (case l8 => k_is)
    (case c8 => k_is)
    (case k8 => k_is)
    (case a9 => k_is)
    (case l9 => k_is)
    (case c9 => k_is)
    (case k9 => k_is)
    (case a10 => k_is)
    (case l10 => k_is)
    (case c10 => k_is)
    (case k10 => k_is)
    (case a11 => k_is)
    (case i11 => k_is)
    (case l11 => k_is)
    (case c11 => k_is)
    (case k11 => k_is)
    (case a12 => k_is)
    (case l12 => k_is)
    (case c12 => k_is)
    (case k12 => k_is)
    (case a13 => k_is)
    (case i13 => k_is)
    (case l13 => k_is)
    (case c13 => k_is)
    (case k13 => k_is)
    (case a14 => k_is)
    (case i14 => k_is)
    (case l14 => k_is)
    (case c14 => k_is)
    (case k14 => k_is)
    (case a15 => k_is)
    (case i15 => k_is)
    (case l15 => k_is)
    (case c15 => k_is)
    (case k15 => k_is)
    (case a16 => k_is)
    (case l16 => k_is)
    (case c16 => k_is)
    (case k16 => k_is)
    (case a17 => k_is)
    (case l17 => k_is)
    (case c17 => k_is)
    (case k17 => k_is)
    (case a18 => k_is)
    (case i18 => k_is)
    (case l18 => k_is)
    (case c18 => k_is)
    (case k18 => k_is)
    (case a19 => k_is)
    (case l19 => k_is)
    (case c19 => k_is)
    (case k19 => k_is)
    (case a20 => k_is)
    (case i20 => k_is)
    (case l20 => k_is)
    (case c20 => k_is)
    (case k20 => k_is)
    (case a21 => k_is)
    (case i21 => k_is)
    (case l21 => k_is)
    (case c21 => k_is)
    (case k21 => k_is)
    (case a22 => k_is)
    (case l22 => k_is)
    (case c22 => k_is)
    (case k22 => k_is)
    (case a23 => k_is)
    (case i23 => k_is)
    (case l23 => k_is)
    (case c23 => k_is)
    (case k23 => k_is)
    (case a24 => k_is)
    (case i24 => k_is)
    (case l24 => k_is)
    (case c24 => k_is)
    (case k24 => k_is)
    (case a25 => k_is)
    (case l25 => k_is)
    (case c25 => k_is)
    (case k25 => k_is)
    (case a26 => k_is)
    (case l26 => k_is)
    (case c26 => k_is)
    (case k26 => k_is)
    (case a27 => k_is)
    (case i27 => k_is)
    (case l27 => k_is)
    (case c27 => k_is)
    (case k27 => k_is)
    (case a28 => k_is)
    (case i28 => k_is)
    (case l28 => k_is)
    (case c28 => k_is)
    (case k28 => k_is)
    (case a29 => k_is)
    (case i29 => k_is)
    (case l29 => k_is)
    (case c29 => k_is)
    (case k29 => k_is)
    (case a30 => k_is)
    (case i30 => k_is)
    (case l30 => k_is)
    (case c30 => k_is)
    (case k30 => k_is)
    (case a31 => k_is)
    (case l31 => k_is)
    (case c31 => k_is)
    (case k31 => k_is)
    (case a32 => k_is)
    (case l32 => k_is)
    (case c32 => k_is)
    (case k32 => k_is)
    (case pgC0 => k_is)
    (case hdC0 => k_is)
    (case poC0 => k_is)
    (case saC0 => k_is)
    (case mkC0 => k_is)
    (case kcC0 => k_is)
    (case oaC0 => k_is)
    (case onC0 => k_is)
    (case otC0 => k_is)
    (case omC0 => k_is)
    (case iC0tuple => first | kernel_rfl | rfl | decide +kernel)
    (case iC0int => first | kernel_rfl | rfl | decide +kernel)
    (case iC0bool => first | kernel_rfl | rfl | decide +kernel)
    (case iC0list => first | kernel_rfl | rfl | decide +kernel)
    (case iC0dict => first | kernel_rfl | rfl | decide +kernel)
    (case iC0str => first | kernel_rfl | rfl | decide +kernel)
    (case nC0_kept_lying => k_is)
    (case nC0_kept_waiting => k_is)
    (case nC0_kept_power => k_is)
    (case nC0_kept_reached => k_is)
    (case z_abs => k_is)
    (case z_int => k_is)
    (case z_len => k_is)
    (case z_range => k_is)
    (case z_bool => k_is)
    (case z_isinstance => k_is)
    (case z_ValueError => k_is)
    (case v_MOST_CELLS => k_is)
    (case z_all => k_is)
    (case v_MOST_NUMBER => k_is)
    (case z_tuple => k_is)
    (case z_sorted => k_is)
    (case z_list => k_is)
    (case z_zip => k_is)
    (case z_dict => k_is)
    (case iBadDiskNothingWaits => first | kernel_rfl | rfl | decide +kernel)
    (case iNoCellNothingWaits => first | kernel_rfl | rfl | decide +kernel)
    (case iNoThingNothingWaits => first | kernel_rfl | rfl | decide +kernel)
    (case iNothingWaitsNothingWaits => first | kernel_rfl | rfl | decide +kernel)
    (case iStoppedNothingWaits => first | kernel_rfl | rfl | decide +kernel)
    (case iNoNumberNothingWaits => first | kernel_rfl | rfl | decide +kernel)
    (case iBadDiskNoThing => first | kernel_rfl | rfl | decide +kernel)
    (case iNoCellNoThing => first | kernel_rfl | rfl | decide +kernel)
    (case iNoThingNoThing => first | kernel_rfl | rfl | decide +kernel)
    (case iNothingWaitsNoThing => first | kernel_rfl | rfl | decide +kernel)
    (case iStoppedNoThing => first | kernel_rfl | rfl | decide +kernel)
    (case iNoNumberNoThing => first | kernel_rfl | rfl | decide +kernel)
    (case iBadDiskNoCell => first | kernel_rfl | rfl | decide +kernel)
    (case iNoCellNoCell => first | kernel_rfl | rfl | decide +kernel)
    (case iNoThingNoCell => first | kernel_rfl | rfl | decide +kernel)
    (case iNothingWaitsNoCell => first | kernel_rfl | rfl | decide +kernel)
    (case iStoppedNoCell => first | kernel_rfl | rfl | decide +kernel)
    (case iNoNumberNoCell => first | kernel_rfl | rfl | decide +kernel)
    (case iBadDiskBadDisk => first | kernel_rfl | rfl | decide +kernel)
    (case iNoCellBadDisk => first | kernel_rfl | rfl | decide +kernel)
    (case iNoThingBadDisk => first | kernel_rfl | rfl | decide +kernel)
    (case iNothingWaitsBadDisk => first | kernel_rfl | rfl | decide +kernel)
    (case iStoppedBadDisk => first | kernel_rfl | rfl | decide +kernel)
    (case iNoNumberBadDisk => first | kernel_rfl | rfl | decide +kernel)
    (case iBadDiskNoNumber => first | kernel_rfl | rfl | decide +kernel)
    (case iNoCellNoNumber => first | kernel_rfl | rfl | decide +kernel)
    (case iNoThingNoNumber => first | kernel_rfl | rfl | decide +kernel)
    (case iNothingWaitsNoNumber => first | kernel_rfl | rfl | decide +kernel)
    (case iStoppedNoNumber => first | kernel_rfl | rfl | decide +kernel)
    (case iNoNumberNoNumber => first | kernel_rfl | rfl | decide +kernel)
    (case iBadDiskStopped => first | kernel_rfl | rfl | decide +kernel)
    (case iNoCellStopped => first | kernel_rfl | rfl | decide +kernel)
    (case iNoThingStopped => first | kernel_rfl | rfl | decide +kernel)
    (case iNothingWaitsStopped => first | kernel_rfl | rfl | decide +kernel)
    (case iStoppedStopped => first | kernel_rfl | rfl | decide +kernel)
    (case iNoNumberStopped => first | kernel_rfl | rfl | decide +kernel)
    (case iBadDiskValueError => first | kernel_rfl | rfl | decide +kernel)
    (case iNoCellValueError => first | kernel_rfl | rfl | decide +kernel)
    (case iNoThingValueError => first | kernel_rfl | rfl | decide +kernel)
    (case iNothingWaitsValueError => first | kernel_rfl | rfl | decide +kernel)
    (case iStoppedValueError => first | kernel_rfl | rfl | decide +kernel)
    (case iNoNumberValueError => first | kernel_rfl | rfl | decide +kernel)
    (case qgC2 => k_is)
    (case qkC2 => k_is)
    (case qsC2 => k_is)
    (case qdC2 => k_is)
    (case qaC2 => k_is)
    (case qnC2 => k_is)
    (case qtC2 => k_is)
    (case qmC2 => k_is)
    (case qgC4 => k_is)
    (case qkC4 => k_is)
    (case qsC4 => k_is)
    (case qdC4 => k_is)
    (case qaC4 => k_is)
    (case qnC4 => k_is)
    (case qtC4 => k_is)
    (case qmC4 => k_is)
    (case qgC1 => k_is)
    (case qkC1 => k_is)
    (case qsC1 => k_is)
    (case qdC1 => k_is)
    (case qaC1 => k_is)
    (case qnC1 => k_is)
    (case qtC1 => k_is)
    (case qmC1 => k_is)
    (case qgC6 => k_is)
    (case qkC6 => k_is)
    (case qsC6 => k_is)
    (case qdC6 => k_is)
    (case qaC6 => k_is)
    (case qnC6 => k_is)
    (case qtC6 => k_is)
    (case qmC6 => k_is)
    (case qgC7 => k_is)
    (case qkC7 => k_is)
    (case qsC7 => k_is)
    (case qdC7 => k_is)
    (case qaC7 => k_is)
    (case qnC7 => k_is)
    (case qtC7 => k_is)
    (case qmC7 => k_is)
    (case qgC3 => k_is)
    (case qkC3 => k_is)
    (case qsC3 => k_is)
    (case qdC3 => k_is)
    (case qaC3 => k_is)
    (case qnC3 => k_is)
    (case qtC3 => k_is)
    (case qmC3 => k_is)
    (case xNoNumberKeepError => first | kernel_rfl | rfl | decide +kernel)
    (case xStoppedKeepError => first | kernel_rfl | rfl | decide +kernel)
    (case xNothingWaitsKeepError => first | kernel_rfl | rfl | decide +kernel)
    (case xNoThingKeepError => first | kernel_rfl | rfl | decide +kernel)
    (case xNoCellKeepError => first | kernel_rfl | rfl | decide +kernel)
    (case xBadDiskKeepError => first | kernel_rfl | rfl | decide +kernel)
    (case exC3 => k_exc)
    (case ekC3 => k_is)
    (case ebC3 => k_is)
    (case etC3 => k_is)
    (case exC7 => k_exc)
    (case ekC7 => k_is)
    (case ebC7 => k_is)
    (case etC7 => k_is)
    (case exC6 => k_exc)
    (case ekC6 => k_is)
    (case ebC6 => k_is)
    (case etC6 => k_is)
    (case exC4 => k_exc)
    (case ekC4 => k_is)
    (case ebC4 => k_is)
    (case etC4 => k_is)
    (case exC1 => k_exc)
    (case ekC1 => k_is)
    (case ebC1 => k_is)
    (case etC1 => k_is)
    (case exC2 => k_exc)
    (case ekC2 => k_is)
    (case ebC2 => k_is)
    (case etC2 => k_is)
    (case lame22 => rfl)
    (case laml22 => k_is)
    (case lamv22 => rfl)
    (case lamh22 => kernel_rfl)
    (case lamn22 => kernel_rfl)
    (case lamt22 => exact hT8 _ (by decide))
    (case lame25 => rfl)
    (case laml25 => k_is)
    (case lamv25 => rfl)
    (case lamh25 => kernel_rfl)
    (case lamn25 => kernel_rfl)
    (case lamt25 => exact hT8 _ (by decide))
    (case lame32 => rfl)
    (case laml32 => k_is)
    (case lamv32 => rfl)
    (case lamh32 => kernel_rfl)
    (case lamn32 => kernel_rfl)
    (case lamt32 => exact hT8 _ (by decide))
    (case lamd22x25 => decide)
    (case lamd22x32 => decide)
    (case lamd25x32 => decide)
