import PyProof.Rows.All
import Wide.All
import OpenK.AllK
import Wide.FinOn
import HandS.ForMost
import HandS.ForExc
import HandS.IsInst
import HandS.Style
import HandS.Flow
import HandS.Conv
import HandS.Wide
import HandS.TupAny
import KE.GoesMore
import HandS.Small
import HandS.WrittenGet
import PyProof.DictUpdate
import PySem.Challenge.RW_gaprun_k02_terms_looked_at
set_option Elab.async false
set_option linter.all false
set_option maxRecDepth 100000
set_option maxHeartbeats 8000000
/-! Dl1: data in the place of heaps. D data, Rep what bears it, Step what an evaluation may change, L an expression's reading by data. -/
namespace Dl
open PySem PySem.Spec PyProof.Rows L2
/-- Python's data -/
inductive D where
  | non | bl (b : Bool) | int (i : Int) | str (x : Str) | ty (n : String)
  | tup (l : List D) | lst (l : List D) | dic (l : List (Key × D))
  /-- a draw's dict: what it holds is left open -/
  | draw
  /-- a list of ints that is only read (the script) -/
  | scr (ns : List Int)
  /-- an object that is told by its address alone -/
  | obj (a : Addr)
/-- a draw's dict -/
def DrawO (o : HO) : Prop := ∃ (r m : Int) (more : List (Key × V)), o = .dK ((.inr "rest", .int r) :: (.inr "mixed", .int m) :: more) ∧ 0 ≤ r ∧ 0 ≤ m ∧ m < 2147483647 ∧ more.length ≤ 20 ∧ ∀ p ∈ more, p.1 ≠ .inr "rest" ∧ p.1 ≠ .inr "mixed"
theorem DrawO.lst {xs : List V} : ¬ DrawO (.lst xs) := fun ⟨_, _, _, e, _⟩ => nomatch e
theorem DrawO.tup {xs : List V} : ¬ DrawO (.tup xs) := fun ⟨_, _, _, e, _⟩ => nomatch e
theorem DrawO.frz {o : Obj} {u : HO} : ¬ DrawO (.frz o u) := fun ⟨_, _, _, e, _⟩ => nomatch e
/-- H has what B has (draws may have gone on) -/
def Kp (B H : Hp) : Prop := ∀ a o, B a = some o → (¬ DrawO o → H a = some o) ∧ (DrawO o → ∃ u, H a = some u ∧ DrawO u)
theorem Kp.refl (H : Hp) : Kp H H := fun _ o h => ⟨fun _ => h, fun d => ⟨o, h, d⟩⟩
theorem Kp.trans {A B C : Hp} (f : Kp A B) (g : Kp B C) : Kp A C := fun a o h =>
  ⟨fun n => (g a o ((f a o h).1 n)).1 n, fun d => let ⟨u, e, du⟩ := (f a o h).2 d; (g a u e).2 du⟩
theorem Kp.some {B H : Hp} (f : Kp B H) {a : Addr} {o : HO} (h : B a = some o) : ∃ u, H a = some u := by
  by_cases d : DrawO o
  · obtain ⟨u, e, _⟩ := (f a o h).2 d; exact ⟨u, e⟩
  · exact ⟨o, (f a o h).1 d⟩
theorem Kp.none {B H : Hp} (f : Kp B H) {a : Addr} (h : H a = none) : B a = none := by
  cases e : B a with
  | none => rfl
  | some o => obtain ⟨u, q⟩ := f.some e; rw [h] at q; cases q
theorem Kp.upd {B H : Hp} (f : Kp B H) {p : Addr} {o : HO} (h : B p = Option.none) : Kp B (upd H p o) := fun a u e => by
  have ne : a ≠ p := fun z => by rw [z, h] at e; cases e
  rw [upd_ne ne]
  exact f a u e
theorem Kp.upd2 {B H : Hp} (f : Kp B H) (p : Addr) (o : HO) : Kp (L2.upd B p o) (L2.upd H p o) := fun a u e => by
  by_cases z : a = p
  · subst z
    rw [upd_same] at e
    cases e
    rw [upd_same]
    exact ⟨fun _ => rfl, fun d => ⟨_, rfl, d⟩⟩
  · rw [upd_ne z] at e
    rw [upd_ne z]
    exact f a u e
theorem Kp.new {B : Hp} {p : Addr} {o : HO} (h : B p = Option.none) : Kp B (L2.upd B p o) := (Kp.refl B).upd h
theorem kp_rd {B H : Hp} (f : Kp B H) {a : Addr} {u : HO} (n : ¬ DrawO u) (h : Rd B a u) : Rd H a u := by
  rcases h with h | ⟨o, h⟩
  · exact .inl ((f a _ h).1 n)
  · exact .inr ⟨o, (f a _ h).1 DrawO.frz⟩
theorem kp_t {K : PySem.W.Frag} {B H : Hp} (f : Kp B H) {a : Addr} {xs : List V} (h : SqT K B a xs) : SqT K H a xs := h.elim (fun h => .inl (kp_rd f DrawO.tup h)) .inr
theorem kp_l {K : PySem.W.Frag} {B H : Hp} (f : Kp B H) {a : Addr} {xs : List V} (h : SqL K B a xs) : SqL K H a xs := h.elim (fun h => .inl (kp_rd f DrawO.lst h)) .inr
section
variable (K : PySem.W.Frag) (B : Hp)
mutual
inductive Rep : V → D → Prop
  | non : Rep .non .non
  | bl (b : Bool) : Rep (.bl b) (.bl b)
  | int (i : Int) : Rep (.int i) (.int i)
  | str (x : Str) : Rep (.str x) (.str x)
  | ty (n : String) : Rep (.ty n) (.ty n)
  | tup {a : Addr} {vs : List V} {ds : List D} (h : SqT K B a vs) (r : RepL vs ds) : Rep (.ref a) (.tup ds)
  | lst {a : Addr} {vs : List V} {ds : List D} (h : B a = some (.lst vs)) (r : RepL vs ds) : Rep (.ref a) (.lst ds)
  | dic {a : Addr} {kvs : List (Key × V)} {kds : List (Key × D)} (h : B a = some (.dK kvs)) (n : ¬ DrawO (.dK kvs)) (r : RepK kvs kds) : Rep (.ref a) (.dic kds)
  | draw {a : Addr} {o : HO} (h : B a = some o) (d : DrawO o) : Rep (.ref a) .draw
  | scr {a : Addr} {ns : List Int} (h : SqL K B a (ns.map V.int)) : Rep (.ref a) (.scr ns)
  | obj (a : Addr) : Rep (.ref a) (.obj a)
inductive RepL : List V → List D → Prop
  | nil : RepL [] []
  | cons {v : V} {vs : List V} {d : D} {ds : List D} (h : Rep v d) (r : RepL vs ds) : RepL (v :: vs) (d :: ds)
inductive RepK : List (Key × V) → List (Key × D) → Prop
  | nil : RepK [] []
  | cons {k : Key} {v : V} {vs : List (Key × V)} {d : D} {ds : List (Key × D)} (h : Rep v d) (r : RepK vs ds) : RepK ((k, v) :: vs) ((k, d) :: ds)
end
end
section
variable {K : PySem.W.Frag} {B H : Hp}
mutual
theorem Rep.mono (f : Kp B H) : ∀ {v : V} {d : D}, Rep K B v d → Rep K H v d
  | _, _, .non => .non
  | _, _, .bl b => .bl b
  | _, _, .int i => .int i
  | _, _, .str x => .str x
  | _, _, .ty n => .ty n
  | _, _, .tup h r => .tup (kp_t f h) (RepL.mono f r)
  | _, _, .lst h r => .lst ((f _ _ h).1 DrawO.lst) (RepL.mono f r)
  | _, _, .dic h n r => .dic ((f _ _ h).1 n) n (RepK.mono f r)
  | _, _, .draw h d => let ⟨_, e, du⟩ := (f _ _ h).2 d; .draw e du
  | _, _, .scr h => .scr (kp_l f h)
  | _, _, .obj a => .obj a
theorem RepL.mono (f : Kp B H) : ∀ {vs : List V} {ds : List D}, RepL K B vs ds → RepL K H vs ds
  | _, _, .nil => .nil
  | _, _, .cons h r => .cons (Rep.mono f h) (RepL.mono f r)
theorem RepK.mono (f : Kp B H) : ∀ {vs : List (Key × V)} {ds : List (Key × D)}, RepK K B vs ds → RepK K H vs ds
  | _, _, .nil => .nil
  | _, _, .cons h r => .cons (Rep.mono f h) (RepK.mono f r)
end
theorem RepL.length : ∀ {vs : List V} {ds : List D}, RepL K B vs ds → vs.length = ds.length
  | _, _, .nil => rfl
  | _, _, .cons _ r => congrArg (· + 1) (RepL.length r)
theorem RepL.append : ∀ {vs ws : List V} {ds es : List D}, RepL K B vs ds → RepL K B ws es → RepL K B (vs ++ ws) (ds ++ es)
  | _, _, _, _, .nil, s => s
  | _, _, _, _, .cons h r, s => .cons h (RepL.append r s)
theorem RepL.get : ∀ {vs : List V} {ds : List D} {i : Nat} {d : D}, RepL K B vs ds → ds[i]? = some d → ∃ v, vs[i]? = some v ∧ Rep K B v d
  | _, _, _, _, .nil, e => by simp at e
  | _, _, 0, _, .cons h _, e => by simp at e; subst e; exact ⟨_, rfl, h⟩
  | _, _, i + 1, d, .cons _ r, e => by
    obtain ⟨v, h1, h2⟩ := RepL.get (i := i) (d := d) r (by simpa using e)
    exact ⟨v, by simpa using h1, h2⟩
theorem RepL.getV : ∀ {vs : List V} {ds : List D} {i : Nat} {v : V}, RepL K B vs ds → vs[i]? = some v → ∃ d, ds[i]? = some d ∧ Rep K B v d
  | _, _, _, _, .nil, e => by simp at e
  | _, _, 0, _, .cons h _, e => by simp at e; subst e; exact ⟨_, rfl, h⟩
  | _, _, i + 1, d, .cons _ r, e => by
    obtain ⟨v, h1, h2⟩ := RepL.getV (i := i) (v := d) r (by simpa using e)
    exact ⟨v, by simpa using h1, h2⟩
theorem RepL.take : ∀ {vs : List V} {ds : List D} (n : Nat), RepL K B vs ds → RepL K B (vs.take n) (ds.take n)
  | _, _, 0, _ => .nil
  | _, _, _ + 1, .nil => .nil
  | _, _, n + 1, .cons h r => .cons h (RepL.take n r)
theorem RepL.drop : ∀ {vs : List V} {ds : List D} (n : Nat), RepL K B vs ds → RepL K B (vs.drop n) (ds.drop n)
  | _, _, 0, r => r
  | _, _, _ + 1, .nil => .nil
  | _, _, n + 1, .cons _ r => RepL.drop n r
theorem RepL.set {v : V} {d : D} (h : Rep K B v d) : ∀ {vs : List V} {ds : List D} (n : Nat), RepL K B vs ds → RepL K B (vs.set n v) (ds.set n d)
  | _, _, _, .nil => .nil
  | _, _, 0, .cons _ t => .cons h t
  | _, _, n + 1, .cons q t => .cons q (RepL.set h n t)
theorem RepL.ints : ∀ ns : List Int, RepL K B (ns.map V.int) (ns.map D.int)
  | [] => .nil
  | i :: r => .cons (.int i) (RepL.ints r)
theorem RepL.strs : ∀ ns : List Str, RepL K B (ns.map V.str) (ns.map D.str)
  | [] => .nil
  | i :: r => .cons (.str i) (RepL.strs r)
end
/-- what an evaluation may change: B (what is shared) grows, H has it, all else stands and stays apart -/
structure Step (B H B' H' : Hp) : Prop where
  kp : Kp B B'
  sub : Kp B' H'
  out : ∀ a o, H a = some o → B a = none → H' a = some o ∧ B' a = none
theorem Step.refl {B H : Hp} (k : Kp B H) : Step B H B H := ⟨.refl B, k, fun _ _ h n => ⟨h, n⟩⟩
theorem Step.trans {B H B1 H1 B2 H2 : Hp} (a : Step B H B1 H1) (b : Step B1 H1 B2 H2) : Step B H B2 H2 :=
  ⟨a.kp.trans b.kp, b.sub, fun x o h n => let ⟨h1, n1⟩ := a.out x o h n; b.out x o h1 n1⟩
theorem Step.has {B H B' H' : Hp} (s : Step B H B' H') {a : Addr} {o : HO} (h : H a = some o) : ∃ u, H' a = some u := by
  cases e : B a with
  | none => exact ⟨o, (s.out a o h e).1⟩
  | some u =>
    obtain ⟨w, q⟩ := s.kp.some e
    exact s.sub.some q
theorem Step.free {B H B' H' : Hp} (s : Step B H B' H') {a : Addr} (h : H' a = none) : H a = none := by
  cases e : H a with
  | none => rfl
  | some o => obtain ⟨u, q⟩ := s.has e; rw [h] at q; cases q
/-- a new thing that is shared -/
theorem Step.new {B H : Hp} (k : Kp B H) {p : Addr} {o : HO} (n : H p = none) : Step B H (upd B p o) (upd H p o) :=
  ⟨.new (k.none n), k.upd2 p o, fun a u h nb => by
    have ne : a ≠ p := ne_of_none h n
    rw [upd_ne ne, upd_ne ne]
    exact ⟨h, nb⟩⟩
/-- a new thing that is not yet shared -/
theorem Step.tmp {B H : Hp} (k : Kp B H) {p : Addr} {o : HO} (n : H p = none) : Step B H B (upd H p o) :=
  ⟨.refl B, k.upd (k.none n), fun a u h nb => by
    have ne : a ≠ p := ne_of_none h n
    rw [upd_ne ne]
    exact ⟨h, nb⟩⟩
/-- a draw goes on -/
theorem Step.draw {B H : Hp} (k : Kp B H) {d : Addr} {o u : HO} (h : B d = some o) (dr : DrawO o) (du : DrawO u) : Step B H B (upd H d u) :=
  ⟨.refl B, fun a v e => by
    by_cases z : a = d
    · subst z
      rw [h] at e
      cases e
      rw [upd_same]
      exact ⟨fun n => absurd dr n, fun _ => ⟨_, rfl, du⟩⟩
    · rw [upd_ne z]
      exact k a v e, fun a v e nb => by
    have z : a ≠ d := fun z => by rw [z, h] at nb; cases nb
    rw [upd_ne z]
    exact ⟨e, nb⟩⟩
/-- what a container holds that is not shared yet -/
inductive Ct where
  | lst (l : List D) | dic (l : List (Key × D))
def Ct.d : Ct → D
  | .lst l => .lst l
  | .dic l => .dic l
/-- an expression's value: shared data, or a container that has one owner -/
inductive Val where
  | dat (d : D) | tmp (c : Ct)
def Val.d : Val → D
  | .dat d => d
  | .tmp c => c.d
def RepC (K : PySem.W.Frag) (B H : Hp) (p : Addr) : Ct → Prop
  | .lst ds => ∃ vs, H p = some (.lst vs) ∧ RepL K B vs ds
  | .dic kds => ∃ kvs, H p = some (.dK kvs) ∧ RepK K B kvs kds
def RepV (K : PySem.W.Frag) (B H : Hp) (v : V) : Val → Prop
  | .dat d => Rep K B v d
  | .tmp c => ∃ p, v = .ref p ∧ B p = none ∧ RepC K B H p c
theorem RepC.has {K : PySem.W.Frag} {B H : Hp} {p : Addr} {c : Ct} (h : RepC K B H p c) : ∃ o, H p = some o := by
  cases c with
  | lst ds => obtain ⟨vs, e, _⟩ := h; exact ⟨_, e⟩
  | dic ds => obtain ⟨vs, e, _⟩ := h; exact ⟨_, e⟩
theorem RepC.move {K : PySem.W.Frag} {B H B' H' : Hp} {p : Addr} {c : Ct} (k : Kp B B') (e : ∀ o, H p = some o → H' p = some o) (h : RepC K B H p c) : RepC K B' H' p c := by
  cases c with
  | lst ds => obtain ⟨vs, q, r⟩ := h; exact ⟨vs, e _ q, r.mono k⟩
  | dic ds => obtain ⟨vs, q, r⟩ := h; exact ⟨vs, e _ q, r.mono k⟩
theorem RepV.step {K : PySem.W.Frag} {B H B' H' : Hp} {v : V} {x : Val} (s : Step B H B' H') (h : RepV K B H v x) : RepV K B' H' v x := by
  cases x with
  | dat d => exact Rep.mono s.kp h
  | tmp c =>
    obtain ⟨p, rfl, n, r⟩ := h
    obtain ⟨o, ho⟩ := r.has
    have q := s.out p o ho n
    exact ⟨p, rfl, q.2, r.move s.kp fun u hu => by rw [ho] at hu; cases hu; exact q.1⟩
/-- a value's own container is new -/
def Fr (H : Hp) (v : V) (x : Val) : Prop := ∀ p c, v = .ref p → x = .tmp c → H p = none
theorem Fr.dat {H : Hp} {v : V} {d : D} : Fr H v (.dat d) := fun _ _ _ e => nomatch e
/-! ### a frame's names -/
abbrev DEnv := List (Option Val)
def lk : DEnv → Nat → Option Val
  | [], _ => none
  | x :: _, 0 => x
  | _ :: r, i + 1 => lk r i
def st : DEnv → Nat → Option Val → DEnv
  | [], _, _ => []
  | _ :: r, 0, v => v :: r
  | x :: r, i + 1, v => x :: st r i v
theorem st_length (v : Option Val) : ∀ (e : DEnv) (i : Nat), (st e i v).length = e.length
  | [], _ => rfl
  | _ :: _, 0 => rfl
  | _ :: r, i + 1 => congrArg (· + 1) (st_length v r i)
theorem lk_lt : ∀ {e : DEnv} {i : Nat} {v : Val}, lk e i = some v → i < e.length
  | [], _, _, h => nomatch h
  | _ :: _, 0, _, _ => Nat.succ_pos _
  | _ :: r, i + 1, v, h => Nat.succ_lt_succ (lk_lt (e := r) (i := i) (v := v) h)
theorem lk_st_same {v : Option Val} : ∀ {e : DEnv} {i : Nat}, i < e.length → lk (st e i v) i = v
  | [], _, h => absurd h (Nat.not_lt_zero _)
  | _ :: _, 0, _ => rfl
  | _ :: r, i + 1, h => lk_st_same (e := r) (i := i) (Nat.lt_of_succ_lt_succ h)
theorem lk_st_ne {v : Option Val} : ∀ {e : DEnv} {i j : Nat}, i ≠ j → lk (st e i v) j = lk e j
  | [], _, _, _ => rfl
  | _ :: _, 0, 0, h => absurd rfl h
  | _ :: _, 0, _ + 1, _ => rfl
  | _ :: _, _ + 1, 0, _ => rfl
  | _ :: r, i + 1, j + 1, h => lk_st_ne (e := r) (i := i) (j := j) fun z => h (by rw [z])
/-- the frame's own containers -/
def Owns (s : L2.St) (r : DEnv) (a : Addr) : Prop := ∃ i c, lk r i = some (.tmp c) ∧ s[i]? = some (some (.ref a))
structure EnvRep (K : PySem.W.Frag) (B H : Hp) (s : L2.St) (r : DEnv) : Prop where
  len : s.length = r.length
  at_ : ∀ i x, lk r i = some x → ∃ v, s[i]? = some (some v) ∧ RepV K B H v x
  dis : ∀ i j c c' a, lk r i = some (.tmp c) → lk r j = some (.tmp c') → s[i]? = some (some (.ref a)) → s[j]? = some (some (.ref a)) → i = j
section
variable {K : PySem.W.Frag} {B H B' H' : Hp} {s : L2.St} {r : DEnv}
theorem EnvRep.step (z : Step B H B' H') (e : EnvRep K B H s r) : EnvRep K B' H' s r :=
  ⟨e.len, fun i x h => let ⟨v, q, w⟩ := e.at_ i x h; ⟨v, q, w.step z⟩, e.dis⟩
theorem EnvRep.owned (e : EnvRep K B H s r) {a : Addr} (h : Owns s r a) : B a = none ∧ ∃ o, H a = some o := by
  obtain ⟨i, c, h1, h2⟩ := h
  obtain ⟨v, q, p, rfl, n, w⟩ := e.at_ i _ h1
  rw [h2] at q
  cases q
  exact ⟨n, w.has⟩
theorem EnvRep.set (e : EnvRep K B H s r) {i : Nat} {v : V} {x : Val} (h : RepV K B H v x) (f : ∀ a c, v = .ref a → x = .tmp c → ¬ Owns s r a) : EnvRep K B H (s.set i (some v)) (st r i (some x)) := by
  refine ⟨by rw [List.length_set, st_length, e.len], fun j y hj => ?_, fun j k c c' a h1 h2 h3 h4 => ?_⟩
  · by_cases z : i = j
    · subst z
      have hl := lk_lt hj
      rw [st_length] at hl
      rw [lk_st_same hl] at hj
      cases hj
      exact ⟨v, by rw [List.getElem?_set_self (by rw [e.len]; exact hl)], h⟩
    · rw [lk_st_ne z] at hj
      rw [List.getElem?_set_ne z]
      exact e.at_ j y hj
  · by_cases z : i = j
    · subst z
      by_cases z2 : i = k
      · exact z2
      · have hl := lk_lt h1
        rw [st_length] at hl
        rw [lk_st_same hl] at h1
        rw [lk_st_ne z2] at h2
        rw [List.getElem?_set_self (by rw [e.len]; exact hl)] at h3
        rw [List.getElem?_set_ne z2] at h4
        cases h1
        cases h3
        exact absurd ⟨k, c', h2, h4⟩ (f a c rfl rfl)
    · by_cases z2 : i = k
      · subst z2
        have hl := lk_lt h2
        rw [st_length] at hl
        rw [lk_st_same hl] at h2
        rw [lk_st_ne z] at h1
        rw [List.getElem?_set_self (by rw [e.len]; exact hl)] at h4
        rw [List.getElem?_set_ne z] at h3
        cases h2
        cases h4
        exact absurd ⟨j, c, h1, h3⟩ (f a c' rfl rfl)
      · rw [lk_st_ne z] at h1
        rw [lk_st_ne z2] at h2
        rw [List.getElem?_set_ne z] at h3
        rw [List.getElem?_set_ne z2] at h4
        exact e.dis j k c c' a h1 h2 h3 h4
end
/-! ### exceptions by data: the class, the field place -/
abbrev Exc := Value × Option Int
def ExcRep (H : Hp) (cls : Value) (d : Option Addr) (e : Exc) : Prop :=
  e.1 = cls ∧ match e.2 with
  | none => d = none
  | some i => ∃ a, d = some a ∧ H a = some (.xd [("place", .int i)])
abbrev DX := Exc → DEnv → Prop
/-! ### what a statement may change -/
structure StepS (B H : Hp) (s : L2.St) (r : DEnv) (B' H' : Hp) (s' : L2.St) (r' : DEnv) : Prop where
  kp : Kp B B'
  sub : Kp B' H'
  out : ∀ a o, H a = some o → B a = none → ¬ Owns s r a → H' a = some o ∧ B' a = none ∧ ¬ Owns s' r' a
theorem StepS.refl {B H : Hp} {s : L2.St} {r : DEnv} (k : Kp B H) : StepS B H s r B H s r := ⟨.refl B, k, fun _ _ h n w => ⟨h, n, w⟩⟩
theorem StepS.trans {B H B1 H1 B2 H2 : Hp} {s s1 s2 : L2.St} {r r1 r2 : DEnv} (a : StepS B H s r B1 H1 s1 r1) (b : StepS B1 H1 s1 r1 B2 H2 s2 r2) : StepS B H s r B2 H2 s2 r2 :=
  ⟨a.kp.trans b.kp, b.sub, fun x o h n w => let ⟨h1, n1, w1⟩ := a.out x o h n w; b.out x o h1 n1 w1⟩
theorem Step.s {B H B' H' : Hp} {s : L2.St} {r : DEnv} (z : Step B H B' H') : StepS B H s r B' H' s r := ⟨z.kp, z.sub, fun a o h n w => ⟨(z.out a o h n).1, (z.out a o h n).2, w⟩⟩
/-! ### the readings by data -/
abbrev DE := DX → DEnv → (Val → Prop) → Prop
abbrev DT := DX → DEnv → (Bool → Prop) → Prop
abbrev DA := DX → DEnv → (List D → Prop) → Prop
abbrev DI := DX → DEnv → (List D → Prop) → Prop
structure DEnds where
  nx : DEnv → Prop
  rt : Val → Prop
  bk : DEnv → Prop := fun _ => False
  ct : DEnv → Prop := fun _ => False
abbrev DS := DX → DEnds → DEnv → Prop
/-- an expression; fr: its own container is new (else it may be a name's) -/
def L (K : PySem.W.Frag) (W : WX) (fr : Bool) (de : DE) : TE := fun s H Q => ∃ B r xc P, Kp B H ∧ EnvRep K B H s r ∧ de xc r P ∧
  (∀ cls d e H' B', Step B H B' H' → ExcRep H' cls d e → xc e r → W cls d s H') ∧
  ∀ v x H' B', Step B H B' H' → RepV K B' H' v x → (fr = true → Fr H v x) → P x → Q v H'
def LT (K : PySem.W.Frag) (W : WX) (dt : DT) : TT := fun s H Q => ∃ B r xc P, Kp B H ∧ EnvRep K B H s r ∧ dt xc r P ∧
  (∀ cls d e H' B', Step B H B' H' → ExcRep H' cls d e → xc e r → W cls d s H') ∧
  ∀ b H' B', Step B H B' H' → P b → Q b H'
def LA (K : PySem.W.Frag) (W : WX) (da : DA) : TA := fun s H Q => ∃ B r xc P, Kp B H ∧ EnvRep K B H s r ∧ da xc r P ∧
  (∀ cls d e H' B', Step B H B' H' → ExcRep H' cls d e → xc e r → W cls d s H') ∧
  ∀ vs ds H' B', Step B H B' H' → RepL K B' vs ds → P ds → Q vs H'
/-- an iterator that gives just these things, as long as what is at src stands -/
def ItOk (K : PySem.W.Frag) (J : It) (ds : List D) (B H : Hp) (src : Addr → Prop) : Prop := ∀ B2 H2 (i : Nat), Kp B B2 → Kp B2 H2 → (∀ p o, src p → H p = some o → H2 p = some o ∧ B2 p = none) →
  (∀ d, ds[i]? = some d → J.go i H2 ∧ ∀ x H3, J.yld i H2 x H3 → ∃ B3, Step B2 H2 B3 H3 ∧ Rep K B3 x d) ∧ (ds.length = i → J.stop i H2)
def LI (K : PySem.W.Frag) (W : WX) (di : DI) : TI := fun s H R => ∃ B r xc P, Kp B H ∧ EnvRep K B H s r ∧ di xc r P ∧
  (∀ cls d e H' B', Step B H B' H' → ExcRep H' cls d e → xc e r → W cls d s H') ∧
  ∀ J ds H' B' src, Step B H B' H' → (∀ p, src p → H p = none ∧ B' p = none ∧ ∃ o, H' p = some o) → ItOk K J ds B' H' src → P ds → R J H'
def LS (K : PySem.W.Frag) (W : WX) (ds : DS) : TS := fun E s H => ∃ B r xc De, Kp B H ∧ EnvRep K B H s r ∧ ds xc De r ∧
  (∀ cls d e s' r' H' B', StepS B H s r B' H' s' r' → EnvRep K B' H' s' r' → ExcRep H' cls d e → xc e r' → W cls d s' H') ∧
  (∀ s' r' H' B', StepS B H s r B' H' s' r' → EnvRep K B' H' s' r' → De.nx r' → E.nx s' H') ∧
  (∀ s' r' H' B', StepS B H s r B' H' s' r' → EnvRep K B' H' s' r' → De.bk r' → E.bk s' H') ∧
  (∀ s' r' H' B', StepS B H s r B' H' s' r' → EnvRep K B' H' s' r' → De.ct r' → E.ct s' H') ∧
  ∀ v x H' B', StepS B H s r B' H' [some v] [some x] → RepV K B' H' v x → De.rt x → E.rt v H'
/-- what a def promises, by data -/
abbrev DSp := List D → (Exc → Prop) → (Val → Prop) → Prop
def spD (K : PySem.W.Frag) (sp : DSp) : Sp := fun vs H Q E => ∃ B ds xc P, Kp B H ∧ RepL K B vs ds ∧ sp ds xc P ∧
  (∀ cls d e H' B', Step B H B' H' → ExcRep H' cls d e → xc e → E cls d H') ∧
  ∀ v x H' B', Step B H B' H' → RepV K B' H' v x → Fr H v x → P x → Q v H'
end Dl
/-! Dl2: expressions read by data: names, constants, operators, tests, displays. -/
namespace Dl
open PySem PySem.Spec PyProof.Rows L2
section
variable {X : Cx}
theorem imE {e : Expr} {t u : TE} (h : PE X e t) (f : ∀ s H Q, u s H Q → t s H Q) : PE X e u := ⟨fun pins s r H Q I q => h.run pins s r H Q I (f _ _ _ q)⟩
theorem imT {e : Expr} {t u : TT} (h : PT X e t) (f : ∀ s H Q, u s H Q → t s H Q) : PT X e u := ⟨fun pins s r H Q I q => h.run pins s r H Q I (f _ _ _ q)⟩
theorem imW {e : Expr} {t u : TT} (h : PW X e t) (f : ∀ s H Q, u s H Q → t s H Q) : PW X e u := ⟨fun w pins s r H Q I q => h.run w pins s r H Q I (f _ _ _ q)⟩
theorem imA {e : List Expr} {t u : TA} (h : PA X e t) (f : ∀ s H Q, u s H Q → t s H Q) : PA X e u := ⟨fun pos pins s r H Q I q => h.run pos pins s r H Q I (f _ _ _ q)⟩
theorem imS {e : Stmt} {t u : TS} (h : PS X e t) (f : ∀ s H Q, u s H Q → t s H Q) : PS X e u := ⟨fun pins s r H Q I q => h.run pins s r H Q I (f _ _ _ q)⟩
theorem imSs {e : List Stmt} {t u : TS} (h : PSs X e t) (f : ∀ s H Q, u s H Q → t s H Q) : PSs X e u := ⟨fun pins s r H Q I q => h.run pins s r H Q I (f _ _ _ q)⟩
theorem imI {tg e : Expr} {t u : TI} (h : PI X tg e t) (f : ∀ s H Q, u s H Q → t s H Q) : PI X tg e u := ⟨fun pins s r H Q I q => h.run pins s r H Q I (f _ _ _ q)⟩
end
theorem Fr.back {B H B' H' : Hp} {v : V} {x : Val} (s : Step B H B' H') (f : Fr H' v x) : Fr H v x := fun p c e1 e2 => s.free (f p c e1 e2)
section
variable {X : Cx} {W : WX}
theorem q_weak {e : Expr} {de : DE} (h : PE X e (L X.K W true de)) : PE X e (L X.K W false de) :=
  imE h fun s H Q ⟨B, r, xc, P, k, en, d, hx, hq⟩ => ⟨B, r, xc, P, k, en, d, hx, fun v x H' B' st rv _ p => hq v x H' B' st rv (fun z => nomatch z) p⟩
/-! ### names, constants -/
def dC (d : D) : DE := fun _ _ P => P (.dat d)
theorem l_c {s : L2.St} {H : Hp} {Q : VK} {v : V} {d : D} (rep : ∀ B, Rep X.K B v d) (h : L X.K W true (dC d) s H Q) : Q v H := by
  obtain ⟨B, r, xc, P, k, en, p, hx, hq⟩ := h
  exact hq v (.dat d) H B (.refl k) (rep B) (fun _ => Fr.dat) p
theorem q_int {i : Int} {j : Nat} {pos : Pos} : PE X (.Constant (.int i) j pos) (L X.K W true (dC (.int i))) := imE pe_int fun _ _ _ h => l_c (fun _ => .int i) h
theorem q_bl {i : Bool} {j : Nat} {pos : Pos} : PE X (.Constant (.bool i) j pos) (L X.K W true (dC (.bl i))) := imE pe_bl fun _ _ _ h => l_c (fun _ => .bl i) h
theorem q_non {j : Nat} {pos : Pos} : PE X (.Constant .none j pos) (L X.K W true (dC .non)) := imE pe_non fun _ _ _ h => l_c (fun _ => .non) h
theorem q_str {i : Str} {j : Nat} {pos : Pos} : PE X (.Constant (.str i) j pos) (L X.K W true (dC (.str i))) := imE pe_str fun _ _ _ h => l_c (fun _ => .str i) h
theorem q_glob {x : Str} {pos : Pos} {v : V} {u : Value} {d : D} (hg : Gl X x) (hm : X.mg x = some u) (r : RelV v u) (rep : ∀ B, Rep X.K B v d) (hd : (x == ("__debug__" : Str)) = false := by decide) :
    PE X (.Name x pos) (L X.K W true (dC d)) := imE (pe_glob hg hm r hd) fun _ _ _ h => l_c rep h
theorem q_ty {x : Str} {pos : Pos} {n : String} (hg : Gl X x) (hm : X.mg x = none) (hv : bootBuiltins x = some (.type n)) (hn : x ≠ "__name__" := by decide) (hd : (x == ("__debug__" : Str)) = false := by decide) :
    PE X (.Name x pos) (L X.K W true (dC (.ty n))) := imE (pe_bltn (v := .ty n) hg hm hv rfl hn hd) fun _ _ _ h => l_c (fun _ => .ty n) h
def dVar (i : Nat) : DE := fun _ r P => match lk r i with
  | some x => P x
  | none => False
def dVarM (i : Nat) : DE := fun _ r P => match lk r i with
  | some (.dat d) => P (.dat d)
  | _ => False
theorem q_var (i : Nat) {x : Str} {pos : Pos} (hN : X.N[i]? = some x := by rfl) (hv : Vis X.env.scope x := by first | exact Or.inl rfl | exact Or.inr (Or.inl rfl) | exact Or.inr (Or.inr rfl)) (hd : (x == ("__debug__" : Str)) = false := by decide)
    (hcd : (x == ("__classdict__" : Str)) = false := by decide) : PE X (.Name x pos) (L X.K W false (dVar i)) := imE (pv i hN hv hd hcd) fun s H Q ⟨B, r, xc, P, k, en, p, hx, hq⟩ => by
  unfold dVar at p
  cases e : lk r i with
  | none => rw [e] at p; exact p.elim
  | some y =>
    rw [e] at p
    obtain ⟨v, h1, h2⟩ := en.at_ i y e
    exact ⟨v, h1, hq v y H B (.refl k) h2 (fun z => nomatch z) p⟩
theorem q_varM (i : Nat) {x : Str} {pos : Pos} (hN : X.N[i]? = some x := by rfl) (hv : Vis X.env.scope x := by first | exact Or.inl rfl | exact Or.inr (Or.inl rfl) | exact Or.inr (Or.inr rfl)) (hd : (x == ("__debug__" : Str)) = false := by decide)
    (hcd : (x == ("__classdict__" : Str)) = false := by decide) : PE X (.Name x pos) (L X.K W true (dVarM i)) := imE (pv i hN hv hd hcd) fun s H Q ⟨B, r, xc, P, k, en, p, hx, hq⟩ => by
  unfold dVarM at p
  cases e : lk r i with
  | none => rw [e] at p; exact p.elim
  | some y =>
    rw [e] at p
    cases y with
    | tmp c => exact p.elim
    | dat d =>
      obtain ⟨v, h1, h2⟩ := en.at_ i _ e
      exact ⟨v, h1, hq v _ H B (.refl k) h2 (fun _ => Fr.dat) p⟩
/-! ### the shape of a rule on two values, on one -/
abbrev F2 := Val → Val → (Val → Prop) → Prop
abbrev F1 := Val → (Val → Prop) → Prop
/-- an answer of an operation, by data -/
def Ans (K : PySem.W.Frag) (B H : Hp) (P : Val → Prop) (Q : VK) : Prop := ∀ v x H' B', Step B H B' H' → RepV K B' H' v x → Fr H v x → P x → Q v H'
def RelR (K : PySem.W.Frag) (r : R2) (f : F2) : Prop := ∀ (B H : Hp) (x y : V) (vx vy : Val) (P : Val → Prop) (Q : VK), Kp B H → RepV K B H x vx → RepV K B H y vy → f vx vy P → Ans K B H P Q → r x y H Q
def RelU (K : PySem.W.Frag) (r : V → Hp → VK → Prop) (f : F1) : Prop := ∀ (B H : Hp) (x : V) (vx : Val) (P : Val → Prop) (Q : VK), Kp B H → RepV K B H x vx → f vx P → Ans K B H P Q → r x H Q
theorem Ans.dat {K : PySem.W.Frag} {B H : Hp} {P : Val → Prop} {Q : VK} (a : Ans K B H P Q) (k : Kp B H) {v : V} {d : D} (r : Rep K B v d) (p : P (.dat d)) : Q v H := a v (.dat d) H B (.refl k) r Fr.dat p
theorem Ans.newL {K : PySem.W.Frag} {B H : Hp} {P : Val → Prop} {Q : VK} (a : Ans K B H P Q) (k : Kp B H) {vs : List V} {ds : List D} (r : RepL K B vs ds) (p : P (.tmp (.lst ds))) {q : Addr} (n : H q = none) : Q (.ref q) (upd H q (.lst vs)) :=
  a (.ref q) (.tmp (.lst ds)) _ B (.tmp k n) ⟨q, rfl, k.none n, vs, upd_same, r⟩ (fun _ _ e _ => by cases e; exact n) p
theorem Ans.newT {K : PySem.W.Frag} {B H : Hp} {P : Val → Prop} {Q : VK} (a : Ans K B H P Q) (k : Kp B H) {vs : List V} {ds : List D} (r : RepL K B vs ds) (p : P (.dat (.tup ds))) {q : Addr} (n : H q = none) : Q (.ref q) (upd H q (.tup vs)) :=
  a (.ref q) (.dat (.tup ds)) _ (upd B q (.tup vs)) (.new k n) (.tup (.inl (.inl upd_same)) (r.mono (Kp.new (k.none n)))) Fr.dat p
def dOp (f : F2) (da db : DE) : DE := fun xc r P => da xc r fun x => db xc r fun y => f x y P
def dUn (f : F1) (da : DE) : DE := fun xc r P => da xc r fun x => f x P
theorem l_op {rr : R2} {f : F2} {da db : DE} {fa fb : Bool} (hr : RelR X.K rr f) (s : L2.St) (H : Hp) (Q : VK) (h : L X.K W true (dOp f da db) s H Q) : tOp rr (L X.K W fa da) (L X.K W fb db) s H Q := by
  obtain ⟨B, r, xc, P, k, en, h, hx, hq⟩ := h
  refine ⟨B, r, xc, fun x => db xc r fun y => f x y P, k, en, h, hx, fun x vx H1 B1 s1 rx _ h1 => ?_⟩
  refine ⟨B1, r, xc, fun y => f vx y P, s1.sub, en.step s1, h1, fun cls d e H' B' st => hx cls d e H' B' (s1.trans st), fun y vy H2 B2 s2 ry _ h2 => ?_⟩
  exact hr B2 H2 x y vx vy P Q s2.sub (rx.step s2) ry h2 fun v z H3 B3 s3 rv fr p => hq v z H3 B3 ((s1.trans s2).trans s3) rv (fun _ => (fr.back s2).back s1) p
theorem l_un {rr : V → Hp → VK → Prop} {f : F1} {da : DE} {fa : Bool} (hr : RelU X.K rr f) (s : L2.St) (H : Hp) (Q : VK) (h : L X.K W true (dUn f da) s H Q) : tUn rr (L X.K W fa da) s H Q := by
  obtain ⟨B, r, xc, P, k, en, h, hx, hq⟩ := h
  refine ⟨B, r, xc, fun x => f x P, k, en, h, hx, fun x vx H1 B1 s1 rx _ h1 => ?_⟩
  exact hr B1 H1 x vx P Q s1.sub rx h1 fun v z H3 B3 s3 rv fr p => hq v z H3 B3 (s1.trans s3) rv (fun _ => fr.back s1) p
theorem q_op {a b : Expr} {op : Operator} {pos : Pos} {rr : R2} {f : F2} {da db : DE} {fa fb : Bool} (ho : OpR X (binaryOp op) rr) (hr : RelR X.K rr f) (ha : PE X a (L X.K W fa da)) (hb : PE X b (L X.K W fb db)) :
    PE X (.BinOp a op b pos) (L X.K W true (dOp f da db)) := imE (pe_op ho ha hb) (l_op hr)
theorem q_un {a : Expr} {op : UnaryOp} {pos : Pos} {rr : V → Hp → VK → Prop} {f : F1} {da : DE} {fa : Bool} (ho : UnR X (unaryOp op) rr) (hr : RelU X.K rr f) (ha : PE X a (L X.K W fa da)) :
    PE X (.UnaryOp op a pos) (L X.K W true (dUn f da)) := imE (pe_un ho ha) (l_un hr)
theorem q_cmp {a b : Expr} {op : CmpOp} {pos : Pos} {rr : R2} {f : F2} {da db : DE} {fa fb : Bool} (ho : OpR X (compareOp op) rr) (hr : RelR X.K rr f) (ha : PE X a (L X.K W fa da)) (hb : PE X b (L X.K W fb db)) (hm : behindInMarks op b = false) :
    PE X (.Compare a [op] [b] pos) (L X.K W true (dOp f da db)) := imE (pe_cmpR ho ha hb hm) (l_op hr)
theorem q_ix {a b : Expr} {pos : Pos} {rr : R2} {f : F2} {da db : DE} {fa fb : Bool} (ho : IxR X rr) (hr : RelR X.K rr f) (ha : PE X a (L X.K W fa da)) (hb : PE X b (L X.K W fb db)) (hs : PlainIx b := by exact fun _ _ => rfl) :
    PE X (.Subscript a b pos) (L X.K W true (dOp f da db)) := imE (pe_ix ho ha hb hs) (l_op hr)
/-! ### unions of rules -/
theorem or_op {f : Value → Value → Sem Value} {r1 r2 : R2} (a : OpR X f r1) (b : OpR X f r2) : OpR X f (fun x y H Q => r1 x y H Q ∨ r2 x y H Q) := fun pins s t H x y v u Q I rx ry h =>
  h.elim (a pins s t H x y v u Q I rx ry) (b pins s t H x y v u Q I rx ry)
/-! ### what a value is, from its data -/
theorem rv_int {K : PySem.W.Frag} {B H : Hp} {v : V} {x : Val} {i : Int} (r : RepV K B H v x) (e : x.d = .int i) : v = .int i := by
  cases x with
  | dat d => cases (show d = .int i from e); cases r; rfl
  | tmp c => cases c <;> cases e
theorem rv_str {K : PySem.W.Frag} {B H : Hp} {v : V} {x : Val} {i : Str} (r : RepV K B H v x) (e : x.d = .str i) : v = .str i := by
  cases x with
  | dat d => cases (show d = .str i from e); cases r; rfl
  | tmp c => cases c <;> cases e
theorem rv_bl {K : PySem.W.Frag} {B H : Hp} {v : V} {x : Val} {i : Bool} (r : RepV K B H v x) (e : x.d = .bl i) : v = .bl i := by
  cases x with
  | dat d => cases (show d = .bl i from e); cases r; rfl
  | tmp c => cases c <;> cases e
theorem rv_non {K : PySem.W.Frag} {B H : Hp} {v : V} {x : Val} (r : RepV K B H v x) (e : x.d = .non) : v = .non := by
  cases x with
  | dat d => cases (show d = .non from e); cases r; rfl
  | tmp c => cases c <;> cases e
theorem rv_ty {K : PySem.W.Frag} {B H : Hp} {v : V} {x : Val} {n : String} (r : RepV K B H v x) (e : x.d = .ty n) : v = .ty n := by
  cases x with
  | dat d => cases (show d = .ty n from e); cases r; rfl
  | tmp c => cases c <;> cases e
theorem rv_tup {K : PySem.W.Frag} {B H : Hp} {v : V} {x : Val} {ds : List D} (k : Kp B H) (r : RepV K B H v x) (e : x.d = .tup ds) : ∃ a vs, v = .ref a ∧ SqT K B a vs ∧ SqT K H a vs ∧ RepL K B vs ds := by
  cases x with
  | dat d =>
    cases (show d = .tup ds from e)
    cases r with
    | tup h r => exact ⟨_, _, rfl, h, kp_t k h, r⟩
  | tmp c => cases c <;> cases e
theorem rv_lst {K : PySem.W.Frag} {B H : Hp} {v : V} {x : Val} {ds : List D} (k : Kp B H) (r : RepV K B H v x) (e : x.d = .lst ds) : ∃ a vs, v = .ref a ∧ H a = some (.lst vs) ∧ RepL K B vs ds := by
  cases x with
  | dat d =>
    cases (show d = .lst ds from e)
    cases r with
    | lst h r => exact ⟨_, _, rfl, (k _ _ h).1 DrawO.lst, r⟩
  | tmp c =>
    cases c with
    | dic _ => cases e
    | lst es =>
      cases (show D.lst es = D.lst ds from e)
      obtain ⟨p, rfl, n, vs, h, r⟩ := r
      exact ⟨_, _, rfl, h, r⟩
theorem rv_dic {K : PySem.W.Frag} {B H : Hp} {v : V} {x : Val} {ds : List (Key × D)} (k : Kp B H) (r : RepV K B H v x) (e : x.d = .dic ds) : ∃ a kvs, v = .ref a ∧ H a = some (.dK kvs) ∧ RepK K B kvs ds := by
  cases x with
  | dat d =>
    cases (show d = .dic ds from e)
    cases r with
    | dic h n r => exact ⟨_, _, rfl, (k _ _ h).1 n, r⟩
  | tmp c =>
    cases c with
    | lst _ => cases e
    | dic es =>
      cases (show D.dic es = D.dic ds from e)
      obtain ⟨p, rfl, n, vs, h, r⟩ := r
      exact ⟨_, _, rfl, h, r⟩
theorem rv_scr {K : PySem.W.Frag} {B H : Hp} {v : V} {x : Val} {ns : List Int} (k : Kp B H) (r : RepV K B H v x) (e : x.d = .scr ns) : ∃ a, v = .ref a ∧ SqL K H a (ns.map V.int) := by
  cases x with
  | dat d =>
    cases (show d = .scr ns from e)
    cases r with
    | scr h => exact ⟨_, rfl, kp_l k h⟩
  | tmp c => cases c <;> cases e
/-! ### ints -/
def fID (C : Int → Int → Prop) (g : Int → Int → D) (P : Val → Prop) : D → D → Prop
  | .int i, .int j => C i j ∧ P (.dat (g i j))
  | _, _ => False
def fI (C : Int → Int → Prop) (g : Int → Int → D) : F2 := fun x y P => fID C g P x.d y.d
def fI0D (g : Int → Int → D) (P : Val → Prop) : D → D → Prop
  | .int i, .int j => P (.dat (g i j))
  | _, _ => False
def fI0 (g : Int → Int → D) : F2 := fun x y P => fI0D g P x.d y.d
/-- V of flat data -/
def dV : D → V
  | .bl b => .bl b
  | .int i => .int i
  | .str x => .str x
  | .ty n => .ty n
  | _ => .non
def flatD : D → Bool
  | .non => true | .bl _ => true | .int _ => true | .str _ => true
  | _ => false
theorem rep_flat {K : PySem.W.Frag} {B : Hp} {d : D} (h : flatD d = true) : Rep K B (dV d) d := by
  cases d with
  | non => exact .non
  | bl b => exact .bl b
  | int i => exact .int i
  | str x => exact .str x
  | _ => cases h
theorem flat_rep {K : PySem.W.Frag} {B : Hp} {v : V} {d : D} (r : Rep K B v d) (h : flatD d = true) : v = dV d := by
  cases r with
  | non => rfl
  | bl b => rfl
  | int i => rfl
  | str x => rfl
  | _ => cases h
theorem rel_I {C : Int → Int → Prop} {g : Int → Int → D} {G : Int → Int → V} (hG : ∀ i j, G i j = dV (g i j)) (hf : ∀ i j, flatD (g i j) = true) : RelR X.K (rI C G) (fI C g) := by
  intro B H x y vx vy P Q k rx ry h a
  unfold fI fID at h
  split at h
  · rename_i i j e1 e2
    refine ⟨i, j, rv_int rx e1, rv_int ry e2, h.1, ?_⟩
    rw [hG]
    exact a.dat k (rep_flat (hf i j)) h.2
  · exact h.elim
theorem rel_I0 {g : Int → Int → D} {G : Int → Int → V} (hG : ∀ i j, G i j = dV (g i j)) (hf : ∀ i j, flatD (g i j) = true) : RelR X.K (rI0 G) (fI0 g) := by
  intro B H x y vx vy P Q k rx ry h a
  unfold fI0 fI0D at h
  split at h
  · rename_i i j e1 e2
    refine ⟨i, j, rv_int rx e1, rv_int ry e2, ?_⟩
    rw [hG]
    exact a.dat k (rep_flat (hf i j)) h
  · exact h.elim
def fSub : F2 := fI0 fun i j => .int (i - j)
def fMul : F2 := fI CMulW fun i j => .int (i * j)
def fMod : F2 := fI (fun _ j => 0 < j) fun i j => .int (i % j)
def fDiv : F2 := fI CDivW fun i j => .int (i / j)
def fPow : F2 := fI CPow fun i j => .int (i ^ j.toNat)
def fLt : F2 := fI0 fun i j => .bl (decide (i < j))
def fLe : F2 := fI0 fun i j => .bl (decide (i ≤ j))
def fGt : F2 := fI0 fun i j => .bl (decide (j < i))
def fGe : F2 := fI0 fun i j => .bl (decide (j ≤ i))
section
variable {a b : Expr} {pos : Pos} {da db : DE} {fa fb : Bool} (ha : PE X a (L X.K W fa da)) (hb : PE X b (L X.K W fb db))
include ha hb
theorem q_sub : PE X (.BinOp a .Sub b pos) (L X.K W true (dOp fSub da db)) := q_op op_sub (rel_I0 (fun _ _ => rfl) fun _ _ => rfl) ha hb
theorem q_mul : PE X (.BinOp a .Mult b pos) (L X.K W true (dOp fMul da db)) := q_op op_mulW (rel_I (fun _ _ => rfl) fun _ _ => rfl) ha hb
theorem q_mod : PE X (.BinOp a .Mod b pos) (L X.K W true (dOp fMod da db)) := q_op op_mod (rel_I (fun _ _ => rfl) fun _ _ => rfl) ha hb
theorem q_div : PE X (.BinOp a .FloorDiv b pos) (L X.K W true (dOp fDiv da db)) := q_op op_fdivW (rel_I (fun _ _ => rfl) fun _ _ => rfl) ha hb
theorem q_pow : PE X (.BinOp a .Pow b pos) (L X.K W true (dOp fPow da db)) := q_op op_pow (rel_I (fun _ _ => rfl) fun _ _ => rfl) ha hb
theorem q_lt : PE X (.Compare a [.Lt] [b] pos) (L X.K W true (dOp fLt da db)) := q_cmp op_lt (rel_I0 (fun _ _ => rfl) fun _ _ => rfl) ha hb (nomark _)
theorem q_le : PE X (.Compare a [.LtE] [b] pos) (L X.K W true (dOp fLe da db)) := q_cmp op_le (rel_I0 (fun _ _ => rfl) fun _ _ => rfl) ha hb (nomark _)
theorem q_gt : PE X (.Compare a [.Gt] [b] pos) (L X.K W true (dOp fGt da db)) := q_cmp op_gt (rel_I0 (fun _ _ => rfl) fun _ _ => rfl) ha hb (nomark _)
theorem q_ge : PE X (.Compare a [.GtE] [b] pos) (L X.K W true (dOp fGe da db)) := q_cmp op_ge (rel_I0 (fun _ _ => rfl) fun _ _ => rfl) ha hb (nomark _)
end
def fNegD (P : Val → Prop) : D → Prop
  | .int i => P (.dat (.int (-i)))
  | _ => False
def fNeg : F1 := fun x P => fNegD P x.d
theorem q_neg {a : Expr} {pos : Pos} {da : DE} {fa : Bool} (ha : PE X a (L X.K W fa da)) : PE X (.UnaryOp .USub a pos) (L X.K W true (dUn fNeg da)) := q_un un_neg (by
  intro B H x vx P Q k rx h a
  unfold fNeg fNegD at h
  split at h
  · rename_i i e1
    exact ⟨i, rv_int rx e1, a.dat k (.int _) h⟩
  · exact h.elim) ha
/-! ### + -/
def rAddU (K : PySem.W.Frag) : R2 := fun x y H Q => rI0 (fun i j => .int (i + j)) x y H Q ∨ ((∃ i j, x = .str i ∧ y = .str j ∧ i.length + j.length ≤ sizeLine ∧ Q (.str (i ++ j)) H) ∨ (rCat x y H Q ∨ rCatA K x y H Q))
theorem op_addU : OpR X (binaryOp .Add) (rAddU X.K) := or_op op_add (or_op op_add_str (or_op op_cat op_catA))
def fAddD (P : Val → Prop) : D → D → Prop
  | .int i, .int j => P (.dat (.int (i + j)))
  | .str i, .str j => i.length + j.length ≤ sizeLine ∧ P (.dat (.str (i ++ j)))
  | .lst i, .lst j => i.length + j.length ≤ sizeLine ∧ P (.tmp (.lst (i ++ j)))
  | .tup i, .tup j => i.length + j.length ≤ sizeLine ∧ P (.dat (.tup (i ++ j)))
  | _, _ => False
def fAdd : F2 := fun x y P => fAddD P x.d y.d
theorem rel_add : RelR X.K (rAddU X.K) fAdd := by
  intro B H x y vx vy P Q k rx ry h a
  unfold fAdd fAddD at h
  split at h
  · rename_i i j e1 e2
    exact .inl ⟨i, j, rv_int rx e1, rv_int ry e2, a.dat k (.int _) h⟩
  · rename_i i j e1 e2
    exact .inr (.inl ⟨i, j, rv_str rx e1, rv_str ry e2, h.1, a.dat k (.str _) h.2⟩)
  · rename_i i j e1 e2
    obtain ⟨p, vs, rfl, hp, r1⟩ := rv_lst k rx e1
    obtain ⟨q, ws, rfl, hq, r2⟩ := rv_lst k ry e2
    exact .inr (.inr (.inl ⟨p, q, vs, ws, rfl, rfl, hp, hq, by rw [r1.length, r2.length]; exact h.1, fun l n => a.newL k (r1.append r2) h.2 n⟩))
  · rename_i i j e1 e2
    obtain ⟨p, vs, rfl, hp0, hp, r1⟩ := rv_tup k rx e1
    obtain ⟨q, ws, rfl, hq0, hq, r2⟩ := rv_tup k ry e2
    refine .inr (.inr (.inr ⟨p, q, vs, ws, rfl, rfl, hp, hq, by rw [r1.length, r2.length]; exact h.1, fun e => ?_, fun _ e => ?_, fun _ _ l n => a.newT k (r1.append r2) h.2 n⟩))
    · subst e
      cases r1
      exact a.dat k (.tup hq0 r2) h.2
    · subst e
      cases r2
      have h2 := h.2
      rw [List.append_nil] at h2
      exact a.dat k (.tup hp0 r1) h2
  · exact h.elim
theorem q_add {a b : Expr} {pos : Pos} {da db : DE} {fa fb : Bool} (ha : PE X a (L X.K W fa da)) (hb : PE X b (L X.K W fb db)) : PE X (.BinOp a .Add b pos) (L X.K W true (dOp fAdd da db)) := q_op op_addU rel_add ha hb
/-! ### is, is not -/
def rIsU : R2 := fun x y H Q => (y = .non ∧ Q (.bl (decide (x = .non))) H) ∨ rIsB x y H Q
def rIsNU : R2 := fun x y H Q => (y = .non ∧ Q (.bl (!decide (x = .non))) H) ∨ rNotB x y H Q
def D.isN : D → Bool
  | .non => true
  | _ => false
theorem isN_of {K : PySem.W.Frag} {B H : Hp} {v : V} {x : Val} (r : RepV K B H v x) : decide (v = .non) = x.d.isN := by
  cases x with
  | dat d => cases r <;> rfl
  | tmp c =>
    obtain ⟨p, rfl, _⟩ := r
    cases c <;> rfl
/-- x is None; or two truths -/
def fIsD (P : Val → Prop) : D → D → Prop
  | x, .non => P (.dat (.bl x.isN))
  | .bl a, .bl b => P (.dat (.bl (decide (a = b))))
  | _, _ => False
def fIs : F2 := fun x y P => fIsD P x.d y.d
def fIsNotD (P : Val → Prop) : D → D → Prop
  | x, .non => P (.dat (.bl (!x.isN)))
  | .bl a, .bl b => P (.dat (.bl (!decide (a = b))))
  | _, _ => False
def fIsNot : F2 := fun x y P => fIsNotD P x.d y.d
theorem rel_is : RelR X.K rIsU fIs := by
  intro B H x y vx vy P Q k rx ry h a
  unfold fIs at h
  cases e : vy.d with
  | non =>
    rw [e] at h
    rw [fIsD.eq_1] at h
    refine .inl ⟨rv_non ry e, ?_⟩
    rw [isN_of rx]
    exact a.dat k (.bl _) h
  | bl b =>
    cases e1 : vx.d with
    | bl c =>
      rw [e, e1] at h
      exact .inr ⟨c, b, rv_bl rx e1, rv_bl ry e, a.dat k (.bl _) h⟩
    | _ => rw [e, e1] at h; exact h.elim
  | _ => rw [e] at h; unfold fIsD at h; cases e1 : vx.d <;> rw [e1] at h <;> exact h.elim
theorem rel_isNot : RelR X.K rIsNU fIsNot := by
  intro B H x y vx vy P Q k rx ry h a
  unfold fIsNot at h
  cases e : vy.d with
  | non =>
    rw [e] at h
    rw [fIsNotD.eq_1] at h
    refine .inl ⟨rv_non ry e, ?_⟩
    rw [isN_of rx]
    exact a.dat k (.bl _) h
  | bl b =>
    cases e1 : vx.d with
    | bl c =>
      rw [e, e1] at h
      exact .inr ⟨c, b, rv_bl rx e1, rv_bl ry e, a.dat k (.bl _) h⟩
    | _ => rw [e, e1] at h; exact h.elim
  | _ => rw [e] at h; unfold fIsNotD at h; cases e1 : vx.d <;> rw [e1] at h <;> exact h.elim
theorem q_is {a b : Expr} {pos : Pos} {da db : DE} {fa fb : Bool} (ha : PE X a (L X.K W fa da)) (hb : PE X b (L X.K W fb db)) : PE X (.Compare a [.Is] [b] pos) (L X.K W true (dOp fIs da db)) := q_cmp (or_op op_isN op_isBl) rel_is ha hb (nomark _)
theorem q_isNot {a b : Expr} {pos : Pos} {da db : DE} {fa fb : Bool} (ha : PE X a (L X.K W fa da)) (hb : PE X b (L X.K W fb db)) : PE X (.Compare a [.IsNot] [b] pos) (L X.K W true (dOp fIsNot da db)) := q_cmp (or_op op_notN op_notBl) rel_isNot ha hb (nomark _)
/-! ### ==, != of data -/
mutual
def py : D → PyData
  | .bl b => .bool b
  | .int i => .int i
  | .str x => .str x
  | .tup l => .tuple (pyL l)
  | .lst l => .list (pyL l)
  | _ => .none
def pyL : List D → List PyData
  | [] => []
  | d :: r => py d :: pyL r
end
mutual
def okD : D → Bool
  | .non => true
  | .bl _ => true
  | .int _ => true
  | .str _ => true
  | .tup l => okL l
  | .lst l => okL l
  | _ => false
def okL : List D → Bool
  | [] => true
  | d :: r => okD d && okL r
end
mutual
theorem dp_of {K : PySem.W.Frag} {H : Hp} : ∀ {v : V} {d : D}, Rep K H v d → okD d = true → Dp K H v (py d)
  | _, _, .non, _ => .non
  | _, _, .bl b, _ => .bl b
  | _, _, .int i, _ => .int i
  | _, _, .str x, _ => .str x
  | _, _, .tup h r, o => .tup h (dpL_of r o)
  | _, _, .lst h r, o => .lst (.inl (.inl h)) (dpL_of r o)
  | _, _, .ty _, o => nomatch o
  | _, _, .dic _ _ _, o => nomatch o
  | _, _, .draw _ _, o => nomatch o
  | _, _, .scr _, o => nomatch o
  | _, _, .obj _, o => nomatch o
theorem dpL_of {K : PySem.W.Frag} {H : Hp} : ∀ {vs : List V} {ds : List D}, RepL K H vs ds → okL ds = true → DpAll K H vs (pyL ds)
  | _, _, .nil, _ => .nil
  | _, _, .cons h r, o => .cons (dp_of h (Bool.and_eq_true_iff.mp o).1) (dpL_of r (Bool.and_eq_true_iff.mp o).2)
end
theorem dp_val {K : PySem.W.Frag} {B H : Hp} {v : V} {x : Val} (k : Kp B H) (r : RepV K B H v x) (o : okD x.d = true) : Dp K H v (py x.d) := by
  cases x with
  | dat d => exact dp_of (Rep.mono k r) o
  | tmp c =>
    cases c with
    | dic _ => cases o
    | lst ds =>
      obtain ⟨p, rfl, n, vs, h, r⟩ := r
      exact .lst (.inl (.inl h)) (dpL_of (r.mono k) o)
/-- what == asks of data: no dicts and the like, not too deep -/
def eqOk (d : D) : Bool := okD d && SeqAt.shaped (py d)
/-- == of data -/
def eqd (a b : D) : Bool := PyData.eqv (py a) (py b)
def fEq : F2 := fun x y P => (eqOk x.d = true ∧ eqOk y.d = true) ∧ P (.dat (.bl (eqd x.d y.d)))
def fNe : F2 := fun x y P => (eqOk x.d = true ∧ eqOk y.d = true) ∧ P (.dat (.bl (!eqd x.d y.d)))
theorem rel_eq : RelR X.K (rEqD X.K) fEq := by
  intro B H x y vx vy P Q k rx ry h a
  obtain ⟨⟨o1, o2⟩, p⟩ := h
  have o1 := Bool.and_eq_true_iff.mp o1
  have o2 := Bool.and_eq_true_iff.mp o2
  exact ⟨py vx.d, py vy.d, dp_val k rx o1.1, dp_val k ry o2.1, o1.2, o2.2, a.dat k (.bl _) p⟩
theorem rel_ne : RelR X.K (rNeD X.K) fNe := by
  intro B H x y vx vy P Q k rx ry h a
  obtain ⟨⟨o1, o2⟩, p⟩ := h
  have o1 := Bool.and_eq_true_iff.mp o1
  have o2 := Bool.and_eq_true_iff.mp o2
  exact ⟨py vx.d, py vy.d, dp_val k rx o1.1, dp_val k ry o2.1, o1.2, o2.2, a.dat k (.bl _) p⟩
theorem q_eq {a b : Expr} {pos : Pos} {da db : DE} {fa fb : Bool} (hu : X.A.units + 64 < cLine) (ha : PE X a (L X.K W fa da)) (hb : PE X b (L X.K W fb db)) : PE X (.Compare a [.Eq] [b] pos) (L X.K W true (dOp fEq da db)) := q_cmp (op_eqD hu) rel_eq ha hb (nomark _)
theorem q_ne {a b : Expr} {pos : Pos} {da db : DE} {fa fb : Bool} (hu : X.A.units + 64 < cLine) (ha : PE X a (L X.K W fa da)) (hb : PE X b (L X.K W fb db)) : PE X (.Compare a [.NotEq] [b] pos) (L X.K W true (dOp fNe da db)) := q_cmp (op_neD hu) rel_ne ha hb (nomark _)
/-! ### in, not in -/
theorem flat_v {d : D} (h : flatD d = true) : flatV (dV d) = true := by cases d <;> first | rfl | cases h
theorem flat_l {K : PySem.W.Frag} {B : Hp} : ∀ {vs : List V} {ds : List D}, RepL K B vs ds → ds.all flatD = true → vs = ds.map dV
  | _, _, .nil, _ => rfl
  | _, _, .cons h r, o => by
    rw [List.all_cons] at o
    have o := Bool.and_eq_true_iff.mp o
    rw [List.map_cons, ← flat_rep h o.1, ← flat_l r o.2]
theorem flat_all {ds : List D} (o : ds.all flatD = true) : (ds.map dV).all flatV = true := by
  rw [List.all_map]
  refine List.all_eq_true.mpr fun d hd => ?_
  exact flat_v (List.all_eq_true.mp o d hd)
/-- x in ds, flat things -/
def inD (x : D) (ds : List D) : Bool := inV (dV x) (ds.map dV)
def rInU (K : PySem.W.Frag) (neg : Bool) : R2 := fun x y H Q => rIn K neg x y H Q ∨ ∃ (c : Nat) (z : Str), x = .str ⟨#[c]⟩ ∧ y = .str z ∧ Q (.bl (if neg then !decide (c ∈ z.cps.toList) else decide (c ∈ z.cps.toList))) H
def fInD (neg : Bool) (P : Val → Prop) (x : D) : D → Prop
  | .lst l => (flatD x = true ∧ l.all flatD = true) ∧ P (.dat (.bl (if neg then !inD x l else inD x l)))
  | .tup l => (flatD x = true ∧ l.all flatD = true) ∧ P (.dat (.bl (if neg then !inD x l else inD x l)))
  | .str z => ∃ c, x = .str ⟨#[c]⟩ ∧ P (.dat (.bl (if neg then !decide (c ∈ z.cps.toList) else decide (c ∈ z.cps.toList))))
  | _ => False
def fIn (neg : Bool) : F2 := fun x y P => fInD neg P x.d y.d
theorem op_inU : OpR X (compareOp .In) (rInU X.K false) := or_op op_in_seq fun pins s t H x y v u Q I rx ry ⟨c, z, e1, e2, q⟩ => op_in_sign pins s t H x y v u Q I rx ry ⟨c, z, e1, e2, q⟩
theorem op_ninU : OpR X (compareOp .NotIn) (rInU X.K true) := or_op op_notIn_seq fun pins s t H x y v u Q I rx ry ⟨c, z, e1, e2, q⟩ => op_notIn_sign pins s t H x y v u Q I rx ry ⟨c, z, e1, e2, q⟩
theorem flat_val {K : PySem.W.Frag} {B H : Hp} {v : V} {x : Val} (r : RepV K B H v x) (h : flatD x.d = true) : v = dV x.d := by
  cases x with
  | dat d => exact flat_rep r h
  | tmp c => cases c <;> cases h
theorem rel_in {neg : Bool} : RelR X.K (rInU X.K neg) (fIn neg) := by
  intro B H x y vx vy P Q k rx ry h a
  unfold fIn fInD at h
  split at h
  · rename_i l e
    obtain ⟨⟨o1, o2⟩, h⟩ := h
    obtain ⟨p, vs, rfl, hp, r⟩ := rv_lst k ry e
    have ev := flat_l r o2
    have ex := flat_val rx o1
    subst ev ex
    exact .inl ⟨p, _, rfl, .inl (.inl (.inl hp)), flat_v o1, flat_all o2, a.dat k (.bl _) h⟩
  · rename_i l e
    obtain ⟨⟨o1, o2⟩, h⟩ := h
    obtain ⟨p, vs, rfl, _, hp, r⟩ := rv_tup k ry e
    have ev := flat_l r o2
    have ex := flat_val rx o1
    subst ev ex
    exact .inl ⟨p, _, rfl, .inr hp, flat_v o1, flat_all o2, a.dat k (.bl _) h⟩
  · rename_i z e
    obtain ⟨c, e1, h⟩ := h
    exact .inr ⟨c, z, rv_str rx e1, rv_str ry e, a.dat k (.bl _) h⟩
  · exact h.elim
theorem q_in {a b : Expr} {pos : Pos} {da db : DE} {fa fb : Bool} (ha : PE X a (L X.K W fa da)) (hb : PE X b (L X.K W fb db)) (hm : behindInMarks .In b = false := by rfl) : PE X (.Compare a [.In] [b] pos) (L X.K W true (dOp (fIn false) da db)) := q_cmp op_inU rel_in ha hb hm
theorem q_notIn {a b : Expr} {pos : Pos} {da db : DE} {fa fb : Bool} (ha : PE X a (L X.K W fa da)) (hb : PE X b (L X.K W fb db)) (hm : behindInMarks .NotIn b = false := by rfl) : PE X (.Compare a [.NotIn] [b] pos) (L X.K W true (dOp (fIn true) da db)) := q_cmp op_ninU rel_in ha hb hm
/-! ### chains of two comparisons -/
/-- one of two, by a truth -/
def ifB (c : Bool) (A B : Prop) : Prop := if c = true then A else B
theorem ifB_of {c : Bool} {A B : Prop} (h1 : c = true → A) (h2 : c = false → B) : ifB c A B := by
  cases c with
  | true => exact h1 rfl
  | false => exact h2 rfl
theorem ifB_dec {p : Prop} [Decidable p] {A B : Prop} (h1 : p → A) (h2 : ¬ p → B) : ifB (decide p) A B :=
  ifB_of (fun h => h1 (of_decide_eq_true h)) (fun h => h2 (of_decide_eq_false h))
theorem ifB_T {c : Bool} {A B : Prop} (h : c = true) (a : A) : ifB c A B := ifB_of (fun _ => a) fun z => by rw [h] at z; cases z
theorem ifB_F {c : Bool} {A B : Prop} (h : c = false) (b : B) : ifB c A B := ifB_of (fun z => by rw [h] at z; cases z) fun _ => b
/-- a truth -/
def asB (P : Bool → Prop) : D → Prop
  | .bl b => P b
  | _ => False
theorem asB_elim {P : Bool → Prop} {d : D} (h : asB P d) : ∃ b, d = .bl b ∧ P b := by
  cases d <;> first | exact ⟨_, rfl, h⟩ | exact h.elim
def dChain (f g : F2) (da db dc : DE) : DE := fun xc r P => da xc r fun x => db xc r fun y => f x y fun z => asB (fun k => ifB k (dc xc r fun w => g y w P) (P (.dat (.bl false)))) z.d
theorem l_chain {r1 r2 : R2} {f g : F2} {da db dc : DE} {fa fb fc : Bool} (h1 : RelR X.K r1 f) (h2 : RelR X.K r2 g) (s : L2.St) (H : Hp) (Q : VK) (h : L X.K W true (dChain f g da db dc) s H Q) :
    tChain r1 r2 (L X.K W fa da) (L X.K W fb db) (L X.K W fc dc) s H Q := by
  obtain ⟨B, r, xc, P, k, en, h, hx, hq⟩ := h
  refine ⟨B, r, xc, _, k, en, h, hx, fun x vx B1h B1 s1 rx _ q1 => ?_⟩
  refine ⟨B1, r, xc, _, s1.sub, en.step s1, q1, fun cls d e H' B' st => hx cls d e H' B' (s1.trans st), fun y vy H2 B2 s2 ry _ q2 => ?_⟩
  refine h1 B2 H2 x y vx vy _ _ s2.sub (rx.step s2) ry q2 fun z vz H3 B3 s3 rz _ q3 => ?_
  obtain ⟨kk, e, q3⟩ := asB_elim q3
  · refine ⟨kk, rv_bl rz e, ?_⟩
    have s13 := (s1.trans s2).trans s3
    cases kk with
    | true =>
      unfold ifB at q3; rw [if_pos rfl] at q3 ⊢
      refine ⟨B3, r, xc, _, s3.sub, en.step s13, q3, fun cls d e H' B' st => hx cls d e H' B' (s13.trans st), fun w vw H4 B4 s4 rw4 _ q4 => ?_⟩
      exact h2 B4 H4 y w vy vw _ _ s4.sub ((ry.step s3).step s4) rw4 q4 fun v z' H5 B5 s5 rv fr p => hq v z' H5 B5 ((s13.trans s4).trans s5) rv (fun _ => (fr.back s4).back s13) p
    | false =>
      unfold ifB at q3; rw [if_neg Bool.false_ne_true] at q3 ⊢
      exact hq _ (.dat (.bl false)) H3 B3 s13 (Rep.bl false) (fun _ => Fr.dat) q3
theorem q_chain {a b c : Expr} {op op' : CmpOp} {pos : Pos} {r1 r2 : R2} {f g : F2} {da db dc : DE} {fa fb fc : Bool} (o1 : OpR X (compareOp op) r1) (o2 : OpR X (compareOp op') r2) (h1 : RelR X.K r1 f) (h2 : RelR X.K r2 g)
    (ha : PE X a (L X.K W fa da)) (hb : PE X b (L X.K W fb db)) (hc : PE X c (L X.K W fc dc)) (hm : lastMarks [op, op'] [b, c] = false := by with_unfolding_all rfl) :
    PE X (.Compare a [op, op'] [b, c] pos) (L X.K W true (dChain f g da db dc)) := imE (pe_chain o1 o2 ha hb hc hm) (l_chain h1 h2)
theorem q_le_le {a b c : Expr} {pos : Pos} {da db dc : DE} {fa fb fc : Bool} (ha : PE X a (L X.K W fa da)) (hb : PE X b (L X.K W fb db)) (hc : PE X c (L X.K W fc dc)) (hm : lastMarks [.LtE, .LtE] [b, c] = false := by with_unfolding_all rfl) :
    PE X (.Compare a [.LtE, .LtE] [b, c] pos) (L X.K W true (dChain fLe fLe da db dc)) := q_chain op_le op_le (rel_I0 (fun _ _ => rfl) fun _ _ => rfl) (rel_I0 (fun _ _ => rfl) fun _ _ => rfl) ha hb hc hm
theorem q_le_lt {a b c : Expr} {pos : Pos} {da db dc : DE} {fa fb fc : Bool} (ha : PE X a (L X.K W fa da)) (hb : PE X b (L X.K W fb db)) (hc : PE X c (L X.K W fc dc)) (hm : lastMarks [.LtE, .Lt] [b, c] = false := by with_unfolding_all rfl) :
    PE X (.Compare a [.LtE, .Lt] [b, c] pos) (L X.K W true (dChain fLe fLt da db dc)) := q_chain op_le op_lt (rel_I0 (fun _ _ => rfl) fun _ _ => rfl) (rel_I0 (fun _ _ => rfl) fun _ _ => rfl) ha hb hc hm
/-! ### tests -/
/-- a value's truth -/
def fTruD (P : Bool → Prop) : D → Prop
  | .non => P false
  | .bl b => P b
  | .int i => P (i != 0)
  | .str y => y.length ≤ sizeLine ∧ P ((y.length : Int) != 0)
  | .tup l => P (!l.isEmpty)
  | .lst l => P (!l.isEmpty)
  | .dic l => P (!l.isEmpty)
  | .scr l => P (!l.isEmpty)
  | _ => False
def fTru (x : Val) (P : Bool → Prop) : Prop := fTruD P x.d
/-- an expression's value that is a truth -/
def dB (de : DE) : DT := fun xc r P => de xc r fun x => asB P x.d
def dTru (de : DE) : DT := fun xc r P => de xc r fun x => fTru x P
theorem RepL.isEmpty {K : PySem.W.Frag} {B : Hp} {vs : List V} {ds : List D} (r : RepL K B vs ds) : vs.isEmpty = ds.isEmpty := by cases r <;> rfl
theorem RepK.isEmpty {K : PySem.W.Frag} {B : Hp} {vs : List (Key × V)} {ds : List (Key × D)} (r : RepK K B vs ds) : vs.isEmpty = ds.isEmpty := by cases r <;> rfl
theorem l_B {de : DE} {fa : Bool} (s : L2.St) (H : Hp) (Q : Bool → Hp → Prop) (h : LT X.K W (dB de) s H Q) : tB (L X.K W fa de) s H Q := by
  obtain ⟨B, r, xc, P, k, en, h, hx, hq⟩ := h
  refine ⟨B, r, xc, _, k, en, h, hx, fun x vx H1 B1 s1 rx _ q => ?_⟩
  obtain ⟨b, e, q⟩ := asB_elim q
  exact ⟨b, rv_bl rx e, hq b H1 B1 s1 q⟩
theorem q_test {e : Expr} {de : DE} {fa : Bool} (h : PE X e (L X.K W fa de)) (he : ∀ whole, isTrue e X.env whole = (do let v ← whole; standAt e.pos; holding [v] (truthy v)) := by intro _; rfl) : PT X e (LT X.K W (dB de)) := imT (pt_val h he) l_B
theorem qt_cmp {a b : Expr} {op : CmpOp} {pos : Pos} {rr : R2} {f : F2} {da db : DE} {fa fb : Bool} (ho : OpR X (compareOp op) rr) (hr : RelR X.K rr f) (ha : PE X a (L X.K W fa da)) (hb : PE X b (L X.K W fb db)) (hm : behindInMarks op b = false) :
    PT X (.Compare a [op] [b] pos) (LT X.K W (dB (dOp f da db))) := imT (pt_cmpR ho ha hb hm) fun s H Q h => l_op hr s H _ (l_B (fa := true) s H Q h)
theorem qt_chain {a b c : Expr} {op op' : CmpOp} {pos : Pos} {r1 r2 : R2} {f g : F2} {da db dc : DE} {fa fb fc : Bool} (o1 : OpR X (compareOp op) r1) (o2 : OpR X (compareOp op') r2) (h1 : RelR X.K r1 f) (h2 : RelR X.K r2 g)
    (ha : PE X a (L X.K W fa da)) (hb : PE X b (L X.K W fb db)) (hc : PE X c (L X.K W fc dc)) (hm : lastMarks [op, op'] [b, c] = false := by with_unfolding_all rfl) :
    PT X (.Compare a [op, op'] [b, c] pos) (LT X.K W (dB (dChain f g da db dc))) := imT (pt_chain o1 o2 ha hb hc hm) fun s H Q h => l_chain h1 h2 s H _ (l_B (fa := true) s H Q h)
section
variable {a b : Expr} {pos : Pos} {da db : DE} {fa fb : Bool} (ha : PE X a (L X.K W fa da)) (hb : PE X b (L X.K W fb db))
include ha hb
theorem qt_lt : PT X (.Compare a [.Lt] [b] pos) (LT X.K W (dB (dOp fLt da db))) := qt_cmp op_lt (rel_I0 (fun _ _ => rfl) fun _ _ => rfl) ha hb (nomark _)
theorem qt_le : PT X (.Compare a [.LtE] [b] pos) (LT X.K W (dB (dOp fLe da db))) := qt_cmp op_le (rel_I0 (fun _ _ => rfl) fun _ _ => rfl) ha hb (nomark _)
theorem qt_gt : PT X (.Compare a [.Gt] [b] pos) (LT X.K W (dB (dOp fGt da db))) := qt_cmp op_gt (rel_I0 (fun _ _ => rfl) fun _ _ => rfl) ha hb (nomark _)
theorem qt_ge : PT X (.Compare a [.GtE] [b] pos) (LT X.K W (dB (dOp fGe da db))) := qt_cmp op_ge (rel_I0 (fun _ _ => rfl) fun _ _ => rfl) ha hb (nomark _)
theorem qt_is : PT X (.Compare a [.Is] [b] pos) (LT X.K W (dB (dOp fIs da db))) := qt_cmp (or_op op_isN op_isBl) rel_is ha hb (nomark _)
theorem qt_isNot : PT X (.Compare a [.IsNot] [b] pos) (LT X.K W (dB (dOp fIsNot da db))) := qt_cmp (or_op op_notN op_notBl) rel_isNot ha hb (nomark _)
theorem qt_eq (hu : X.A.units + 64 < cLine) : PT X (.Compare a [.Eq] [b] pos) (LT X.K W (dB (dOp fEq da db))) := qt_cmp (op_eqD hu) rel_eq ha hb (nomark _)
theorem qt_ne (hu : X.A.units + 64 < cLine) : PT X (.Compare a [.NotEq] [b] pos) (LT X.K W (dB (dOp fNe da db))) := qt_cmp (op_neD hu) rel_ne ha hb (nomark _)
theorem qt_in (hm : behindInMarks .In b = false := by rfl) : PT X (.Compare a [.In] [b] pos) (LT X.K W (dB (dOp (fIn false) da db))) := qt_cmp op_inU rel_in ha hb hm
theorem qt_notIn (hm : behindInMarks .NotIn b = false := by rfl) : PT X (.Compare a [.NotIn] [b] pos) (LT X.K W (dB (dOp (fIn true) da db))) := qt_cmp op_ninU rel_in ha hb hm
theorem qt_le_le {c : Expr} {dc : DE} {fc : Bool} (hc : PE X c (L X.K W fc dc)) (hm : lastMarks [.LtE, .LtE] [b, c] = false := by with_unfolding_all rfl) : PT X (.Compare a [.LtE, .LtE] [b, c] pos) (LT X.K W (dB (dChain fLe fLe da db dc))) :=
  qt_chain op_le op_le (rel_I0 (fun _ _ => rfl) fun _ _ => rfl) (rel_I0 (fun _ _ => rfl) fun _ _ => rfl) ha hb hc hm
theorem qt_le_lt {c : Expr} {dc : DE} {fc : Bool} (hc : PE X c (L X.K W fc dc)) (hm : lastMarks [.LtE, .Lt] [b, c] = false := by with_unfolding_all rfl) : PT X (.Compare a [.LtE, .Lt] [b, c] pos) (LT X.K W (dB (dChain fLe fLt da db dc))) :=
  qt_chain op_le op_lt (rel_I0 (fun _ _ => rfl) fun _ _ => rfl) (rel_I0 (fun _ _ => rfl) fun _ _ => rfl) ha hb hc hm
end
theorem q_truth {e : Expr} {de : DE} {fa : Bool} (h : PE X e (L X.K W fa de)) (he : ∀ whole, isTrue e X.env whole = (do let v ← whole; standAt e.pos; holding [v] (truthy v)) := by intro _; rfl) : PT X e (LT X.K W (dTru de)) := by
  refine imT (pt_truth h he) fun s H Q ⟨B, r, xc, P, k, en, h, hx, hq⟩ => ⟨B, r, xc, _, k, en, h, hx, fun x vx H1 B1 s1 rx _ q => ?_⟩
  unfold fTru fTruD at q
  split at q
  · rename_i e
    exact ⟨false, by rw [rv_non rx e]; rfl, hq _ H1 B1 s1 q⟩
  · rename_i b e
    exact ⟨b, by rw [rv_bl rx e]; rfl, hq _ H1 B1 s1 q⟩
  · rename_i i e
    exact ⟨i != 0, by rw [rv_int rx e]; rfl, hq _ H1 B1 s1 q⟩
  · rename_i y e
    exact ⟨(y.length : Int) != 0, by rw [rv_str rx e]; exact ⟨q.1, rfl⟩, hq _ H1 B1 s1 q.2⟩
  · rename_i l e
    obtain ⟨p, vs, rfl, _, hp, rr⟩ := rv_tup s1.sub rx e
    exact ⟨!l.isEmpty, .inr (.inl ⟨vs, hp, by rw [rr.isEmpty]⟩), hq _ H1 B1 s1 q⟩
  · rename_i l e
    obtain ⟨p, vs, rfl, hp, rr⟩ := rv_lst s1.sub rx e
    exact ⟨!l.isEmpty, .inl ⟨vs, .inl (.inl hp), by rw [rr.isEmpty]⟩, hq _ H1 B1 s1 q⟩
  · rename_i l e
    obtain ⟨p, vs, rfl, hp, rr⟩ := rv_dic s1.sub rx e
    exact ⟨!l.isEmpty, .inr (.inr ⟨vs, hp, by rw [rr.isEmpty]⟩), hq _ H1 B1 s1 q⟩
  · rename_i l e
    obtain ⟨p, rfl, hp⟩ := rv_scr s1.sub rx e
    exact ⟨!l.isEmpty, .inl ⟨_, hp, by cases l <;> rfl⟩, hq _ H1 B1 s1 q⟩
  · exact q.elim
def dAnd (ta tb : DT) : DT := fun xc r P => ta xc r fun c => ifB c (tb xc r P) (P false)
def dOr (ta tb : DT) : DT := fun xc r P => ta xc r fun c => ifB c (P true) (tb xc r P)
def dNot (ta : DT) : DT := fun xc r P => ta xc r fun c => P (!c)
theorem l_and {ta tb : DT} (s : L2.St) (H : Hp) (Q : Bool → Hp → Prop) (h : LT X.K W (dAnd ta tb) s H Q) : tAnd (LT X.K W ta) (LT X.K W tb) s H Q := by
  obtain ⟨B, r, xc, P, k, en, h, hx, hq⟩ := h
  refine ⟨B, r, xc, _, k, en, h, hx, fun c H1 B1 s1 q => ?_⟩
  cases c with
  | true =>
    unfold ifB at q; rw [if_pos rfl] at q ⊢
    exact ⟨B1, r, xc, P, s1.sub, en.step s1, q, fun cls d e H' B' st => hx cls d e H' B' (s1.trans st), fun b H2 B2 s2 p => hq b H2 B2 (s1.trans s2) p⟩
  | false =>
    unfold ifB at q; rw [if_neg Bool.false_ne_true] at q ⊢
    exact hq _ H1 B1 s1 q
theorem l_or {ta tb : DT} (s : L2.St) (H : Hp) (Q : Bool → Hp → Prop) (h : LT X.K W (dOr ta tb) s H Q) : tOr (LT X.K W ta) (LT X.K W tb) s H Q := by
  obtain ⟨B, r, xc, P, k, en, h, hx, hq⟩ := h
  refine ⟨B, r, xc, _, k, en, h, hx, fun c H1 B1 s1 q => ?_⟩
  cases c with
  | true =>
    unfold ifB at q; rw [if_pos rfl] at q ⊢
    exact hq _ H1 B1 s1 q
  | false =>
    unfold ifB at q; rw [if_neg Bool.false_ne_true] at q ⊢
    exact ⟨B1, r, xc, P, s1.sub, en.step s1, q, fun cls d e H' B' st => hx cls d e H' B' (s1.trans st), fun b H2 B2 s2 p => hq b H2 B2 (s1.trans s2) p⟩
theorem q_not {e : Expr} {pos : Pos} {ta : DT} (h : PT X e (LT X.K W ta)) : PT X (.UnaryOp .Not e pos) (LT X.K W (dNot ta)) := by
  refine imT (pt_not h) fun s H Q ⟨B, r, xc, P, k, en, h, hx, hq⟩ => ⟨B, r, xc, _, k, en, h, hx, fun c H1 B1 s1 q => hq _ H1 B1 s1 q⟩
theorem qw_and {a b : Expr} {rest : List Expr} {pos : Pos} {ta tb : DT} (ha : PT X a (LT X.K W ta)) (hb : PW X (.BoolOp .And (b :: rest) pos) (LT X.K W tb)) : PW X (.BoolOp .And (a :: b :: rest) pos) (LT X.K W (dAnd ta tb)) := imW (pw_and ha hb) l_and
theorem qw_or {a b : Expr} {rest : List Expr} {pos : Pos} {ta tb : DT} (ha : PT X a (LT X.K W ta)) (hb : PW X (.BoolOp .Or (b :: rest) pos) (LT X.K W tb)) : PW X (.BoolOp .Or (a :: b :: rest) pos) (LT X.K W (dOr ta tb)) := imW (pw_or ha hb) l_or
/-! ### and, or, not as values; a if c else b -/
def dAndV (da db : DE) : DE := fun xc r P => da xc r fun x => asB (fun c => ifB c (db xc r P) (P (.dat (.bl false)))) x.d
def dOrV (da db : DE) : DE := fun xc r P => da xc r fun x => asB (fun c => ifB c (P (.dat (.bl true))) (db xc r P)) x.d
theorem q_andV {a b : Expr} {rest : List Expr} {pos : Pos} {da db : DE} {fa : Bool} (ha : PE X a (L X.K W fa da)) (hb : PE X (.BoolOp .And (b :: rest) pos) (L X.K W true db)) : PE X (.BoolOp .And (a :: b :: rest) pos) (L X.K W true (dAndV da db)) := by
  refine imE (pe_and ha hb) fun s H Q ⟨B, r, xc, P, k, en, h, hx, hq⟩ => ⟨B, r, xc, _, k, en, h, hx, fun x vx H1 B1 s1 rx _ q => ?_⟩
  obtain ⟨c, e, q⟩ := asB_elim q
  · refine ⟨c, rv_bl rx e, ?_⟩
    cases c with
    | true =>
      unfold ifB at q; rw [if_pos rfl] at q ⊢
      exact ⟨B1, r, xc, P, s1.sub, en.step s1, q, fun cls d e H' B' st => hx cls d e H' B' (s1.trans st), fun v x H2 B2 s2 rv fr p => hq v x H2 B2 (s1.trans s2) rv (fun z => (fr z).back s1) p⟩
    | false =>
      unfold ifB at q; rw [if_neg Bool.false_ne_true] at q ⊢
      exact hq _ (.dat (.bl false)) H1 B1 s1 (Rep.bl false) (fun _ => Fr.dat) q
theorem q_orV {a b : Expr} {rest : List Expr} {pos : Pos} {da db : DE} {fa : Bool} (ha : PE X a (L X.K W fa da)) (hb : PE X (.BoolOp .Or (b :: rest) pos) (L X.K W true db)) : PE X (.BoolOp .Or (a :: b :: rest) pos) (L X.K W true (dOrV da db)) := by
  refine imE (pe_or ha hb) fun s H Q ⟨B, r, xc, P, k, en, h, hx, hq⟩ => ⟨B, r, xc, _, k, en, h, hx, fun x vx H1 B1 s1 rx _ q => ?_⟩
  obtain ⟨c, e, q⟩ := asB_elim q
  · refine ⟨c, rv_bl rx e, ?_⟩
    cases c with
    | true =>
      unfold ifB at q; rw [if_pos rfl] at q ⊢
      exact hq _ (.dat (.bl true)) H1 B1 s1 (Rep.bl true) (fun _ => Fr.dat) q
    | false =>
      unfold ifB at q; rw [if_neg Bool.false_ne_true] at q ⊢
      exact ⟨B1, r, xc, P, s1.sub, en.step s1, q, fun cls d e H' B' st => hx cls d e H' B' (s1.trans st), fun v x H2 B2 s2 rv fr p => hq v x H2 B2 (s1.trans s2) rv (fun z => (fr z).back s1) p⟩
theorem q_one {a : Expr} {op : BoolOp} {pos : Pos} {t : TE} (ha : PE X a t) : PE X (.BoolOp op [a] pos) t := pe_one ha
def dNotV (da : DE) : DE := fun xc r P => da xc r fun x => asB (fun c => P (.dat (.bl (!c)))) x.d
theorem q_notV {a : Expr} {pos : Pos} {da : DE} {fa : Bool} (ha : PE X a (L X.K W fa da)) : PE X (.UnaryOp .Not a pos) (L X.K W true (dNotV da)) := by
  refine imE (pe_not ha) fun s H Q ⟨B, r, xc, P, k, en, h, hx, hq⟩ => ⟨B, r, xc, _, k, en, h, hx, fun x vx H1 B1 s1 rx _ q => ?_⟩
  obtain ⟨c, e, q⟩ := asB_elim q
  exact ⟨c, rv_bl rx e, hq _ (.dat (.bl (!c))) H1 B1 s1 (Rep.bl _) (fun _ => Fr.dat) q⟩
def dIf (t : DT) (da db : DE) : DE := fun xc r P => t xc r fun c => ifB c (da xc r P) (db xc r P)
theorem q_ifExp {c a b : Expr} {pos : Pos} {t : DT} {da db : DE} {f : Bool} (hc : PT X c (LT X.K W t)) (ha : PE X a (L X.K W f da)) (hb : PE X b (L X.K W f db)) : PE X (.IfExp c a b pos) (L X.K W f (dIf t da db)) := by
  refine imE (pe_ifExp hc ha hb) fun s H Q ⟨B, r, xc, P, k, en, h, hx, hq⟩ => ⟨B, r, xc, _, k, en, h, hx, fun c H1 B1 s1 q => ?_⟩
  cases c with
  | true =>
    unfold ifB at q; rw [if_pos rfl] at q ⊢
    exact ⟨B1, r, xc, P, s1.sub, en.step s1, q, fun cls d e H' B' st => hx cls d e H' B' (s1.trans st), fun v x H2 B2 s2 rv fr p => hq v x H2 B2 (s1.trans s2) rv (fun z => (fr z).back s1) p⟩
  | false =>
    unfold ifB at q; rw [if_neg Bool.false_ne_true] at q ⊢
    exact ⟨B1, r, xc, P, s1.sub, en.step s1, q, fun cls d e H' B' st => hx cls d e H' B' (s1.trans st), fun v x H2 B2 s2 rv fr p => hq v x H2 B2 (s1.trans s2) rv (fun z => (fr z).back s1) p⟩
/-! ### a new container is shared -/
/-- a container of one's own becomes shared data -/
theorem share {K : PySem.W.Frag} {B H B' H' : Hp} {v : V} {x : Val} (s : Step B H B' H') (r : RepV K B' H' v x) (f : Fr H v x) (nd : ∀ l, x = .tmp (.dic l) → ∀ p kvs, v = .ref p → H' p = some (.dK kvs) → ¬ DrawO (.dK kvs)) : ∃ B'', Step B H B'' H' ∧ Kp B' B'' ∧ Rep K B'' v x.d := by
  cases x with
  | dat d => exact ⟨B', s, .refl _, r⟩
  | tmp c =>
    obtain ⟨p, rfl, n, w⟩ := r
    have hp := f p c rfl rfl
    obtain ⟨o, ho⟩ := w.has
    have kp : Kp B' (upd B' p o) := .new n
    have sub : Kp (upd B' p o) H' := fun a u e => by
      by_cases z : a = p
      · subst z
        rw [upd_same] at e
        cases e
        exact ⟨fun _ => ho, fun d => ⟨_, ho, d⟩⟩
      · rw [upd_ne z] at e
        exact s.sub a u e
    refine ⟨upd B' p o, ⟨s.kp.trans kp, sub, fun a u e nb => ?_⟩, kp, ?_⟩
    · have ne : a ≠ p := fun z => by rw [z, hp] at e; cases e
      rw [upd_ne ne]
      exact s.out a u e nb
    · cases c with
      | lst ds =>
        obtain ⟨vs, h, r⟩ := w
        rw [ho] at h
        cases h
        exact .lst upd_same (r.mono kp)
      | dic ds =>
        obtain ⟨vs, h, r⟩ := w
        rw [ho] at h
        cases h
        exact .dic upd_same (nd ds rfl p vs rfl ho) (r.mono kp)
/-- as shared data: not for a dict that looks like a draw's -/
def Ct.safe : Ct → Prop
  | .lst _ => True
  | .dic l => ∀ a b m, l ≠ (.inr "rest", a) :: (.inr "mixed", b) :: m
def Val.safe : Val → Prop
  | .dat _ => True
  | .tmp c => c.safe
theorem safe_nd {K : PySem.W.Frag} {B H : Hp} {v : V} {x : Val} (r : RepV K B H v x) (s : x.safe) : ∀ l, x = .tmp (.dic l) → ∀ p kvs, v = .ref p → H p = some (.dK kvs) → ¬ DrawO (.dK kvs) := by
  intro l e p kvs e2 h d
  subst e
  obtain ⟨q, e3, _, kv, h2, rr⟩ := r
  rw [e2] at e3
  cases e3
  rw [h] at h2
  cases h2
  obtain ⟨a, b, m, e4, _⟩ := d
  cases e4
  cases rr with
  | cons h1 rr =>
    cases rr with
    | cons h2 rr => exact s _ _ _ rfl
/-- e as shared data -/
def dSh (de : DE) : DE := fun xc r P => de xc r fun x => x.safe ∧ P (.dat x.d)
theorem q_share {e : Expr} {de : DE} (h : PE X e (L X.K W true de)) : PE X e (L X.K W true (dSh de)) := by
  refine imE h fun s H Q ⟨B, r, xc, P, k, en, h, hx, hq⟩ => ⟨B, r, xc, _, k, en, h, hx, fun v x H1 B1 s1 rx fr q => ?_⟩
  obtain ⟨B2, s2, _, rp⟩ := share s1 rx (fr rfl) (safe_nd rx q.1)
  exact hq v (.dat x.d) H1 B2 s2 rp (fun _ => Fr.dat) q.2
/-! ### arguments, displays -/
def dNil : DA := fun _ _ P => P []
/-- shared data -/
def asD (P : D → Prop) : Val → Prop
  | .dat d => P d
  | .tmp _ => False
def dCons (de : DE) (da : DA) : DA := fun xc r P => de xc r fun x => asD (fun d => da xc r fun ds => P (d :: ds)) x
theorem qa_nil : PA X [] (LA X.K W dNil) := imA pa_nil fun s H Q ⟨B, r, xc, P, k, en, h, hx, hq⟩ => hq [] [] H B (.refl k) .nil h
theorem qa_cons {e : Expr} {es : List Expr} {de : DE} {da : DA} (h : PE X e (L X.K W true de)) (hr : PA X es (LA X.K W da)) (hs : starEach (e :: es) X.env = (false, eval e X.env) :: starEach es X.env := by rfl) : PA X (e :: es) (LA X.K W (dCons de da)) := by
  refine imA (pa_cons h hr hs) fun s H Q ⟨B, r, xc, P, k, en, h, hx, hq⟩ => ⟨B, r, xc, _, k, en, h, hx, fun v x H1 B1 s1 rx fr q => ?_⟩
  cases x with
  | tmp c => exact q.elim
  | dat d =>
    exact ⟨B1, r, xc, _, s1.sub, en.step s1, q, fun cls d e H' B' st => hx cls d e H' B' (s1.trans st), fun vs ds H2 B2 s2 rl p => hq (v :: vs) (d :: ds) H2 B2 (s1.trans s2) (.cons (Rep.mono s2.kp rx) rl) p⟩
def dTup (da : DA) : DE := fun xc r P => da xc r fun ds => ds.length ≤ sizeLine ∧ P (.dat (.tup ds))
def dLst (da : DA) : DE := fun xc r P => da xc r fun ds => ds.length ≤ sizeLine ∧ P (.tmp (.lst ds))
theorem q_tup {es : List Expr} {x1 : Nat} {pos : Pos} {da : DA} (h : PA X es (LA X.K W da)) : PE X (.Tuple es x1 pos) (L X.K W true (dTup da)) := by
  refine imE (pe_tup h) fun s H Q ⟨B, r, xc, P, k, en, h, hx, hq⟩ => ⟨B, r, xc, _, k, en, h, hx, fun vs ds H1 B1 s1 rl q => ⟨by rw [rl.length]; exact q.1, fun p n => ?_⟩⟩
  exact hq (.ref p) (.dat (.tup ds)) _ (upd B1 p (.tup vs)) (s1.trans (.new s1.sub n)) (.tup (.inl (.inl upd_same)) (rl.mono (Kp.new (s1.sub.none n)))) (fun _ => Fr.dat) q.2
theorem q_lst {es : List Expr} {pos : Pos} {da : DA} (h : PA X es (LA X.K W da)) : PE X (.List es pos) (L X.K W true (dLst da)) := by
  refine imE (pe_lst h) fun s H Q ⟨B, r, xc, P, k, en, h, hx, hq⟩ => ⟨B, r, xc, _, k, en, h, hx, fun vs ds H1 B1 s1 rl q => ⟨by rw [rl.length]; exact q.1, fun p n => ?_⟩⟩
  exact hq (.ref p) (.tmp (.lst ds)) _ B1 (s1.trans (.tmp s1.sub n)) ⟨p, rfl, s1.sub.none n, vs, upd_same, rl⟩ (fun _ q c e _ => by cases e; exact s1.free n) q.2
end
end Dl
/-! Dl3: statements read by data; loops, comprehensions, calls of the text's own defs. -/
namespace Dl
open PySem PySem.Spec PyProof.Rows L2
/-! ### targets -/
abbrev DG := D → DEnv → (DEnv → Prop) → Prop
/-- what is stored to: names at places of vs alone -/
def LG (K : PySem.W.Frag) (vs : List Nat) (dg : DG) : TG := fun v s H Q => ∃ B r d P, Kp B H ∧ EnvRep K B H s r ∧ Rep K B v d ∧ dg d r P ∧
  ∀ s' r', EnvRep K B H s' r' → wipe s' vs = wipe s vs → (∀ a, Owns s' r' a → Owns s r a) → P r' → Q s' H
theorem wipe_set {v : Option V} : ∀ {vs : List Nat} {s : L2.St} {i : Nat}, i ∈ vs → wipe (s.set i v) vs = wipe s vs
  | [], _, _, h => nomatch h
  | w :: vs, s, i, h => by
    show (wipe (s.set i v) vs).set w none = (wipe s vs).set w none
    by_cases z : i ∈ vs
    · rw [wipe_set z]
    · have e : i = w := by
        rcases List.mem_cons.mp h with e | e
        · exact e
        · exact absurd e z
      subst e
      have q : ∀ (l : List Nat) (s : L2.St), i ∉ l → wipe (s.set i v) l = (wipe s l).set i v := by
        intro l
        induction l with
        | nil => intro s _; rfl
        | cons a l ih =>
          intro s hn
          show (wipe (s.set i v) l).set a none = ((wipe s l).set a none).set i v
          rw [ih s fun q => hn (List.mem_cons_of_mem _ q)]
          exact List.set_comm _ _ fun q => hn (by rw [q]; exact List.mem_cons_self)
      rw [q vs s z, List.set_set]
/-- the env without some names -/
def wp (r : DEnv) : List Nat → DEnv
  | [] => r
  | v :: vs => st (wp r vs) v none
section
variable {K : PySem.W.Frag} {B H : Hp}
theorem lk_st_none {e : DEnv} {i j : Nat} {x : Val} (h : lk (st e i none) j = some x) : lk e j = some x ∧ i ≠ j := by
  by_cases z : i = j
  · subst z
    have hl := lk_lt h
    rw [st_length] at hl
    rw [lk_st_same hl] at h
    cases h
  · rw [lk_st_ne z] at h
    exact ⟨h, z⟩
theorem EnvRep.drop {s : L2.St} {r : DEnv} (e : EnvRep K B H s r) (v : Nat) : EnvRep K B H (s.set v none) (st r v none) := by
  refine ⟨by rw [List.length_set, st_length, e.len], fun i x h => ?_, fun i j c c' a h1 h2 h3 h4 => ?_⟩
  · obtain ⟨h, z⟩ := lk_st_none h
    rw [List.getElem?_set_ne z]
    exact e.at_ i x h
  · obtain ⟨h1, z1⟩ := lk_st_none h1
    obtain ⟨h2, z2⟩ := lk_st_none h2
    rw [List.getElem?_set_ne z1] at h3
    rw [List.getElem?_set_ne z2] at h4
    exact e.dis i j c c' a h1 h2 h3 h4
theorem EnvRep.wipe {s : L2.St} {r : DEnv} (e : EnvRep K B H s r) : ∀ vs : List Nat, EnvRep K B H (wipe s vs) (wp r vs)
  | [] => e
  | v :: vs => (EnvRep.wipe e vs).drop v
end
theorem Owns.set {s : L2.St} {r : DEnv} {i : Nat} {v : V} {x : Val} {a : Addr} (h : Owns (s.set i (some v)) (st r i (some x)) a) : Owns s r a ∨ (v = .ref a ∧ ∃ c, x = .tmp c) := by
  obtain ⟨j, c, h1, h2⟩ := h
  by_cases z : i = j
  · subst z
    have hl := lk_lt h1
    rw [st_length] at hl
    rw [lk_st_same hl] at h1
    by_cases hs : i < s.length
    · rw [List.getElem?_set_self hs] at h2
      cases h2
      cases h1
      exact .inr ⟨rfl, c, rfl⟩
    · rw [List.getElem?_eq_none (by rw [List.length_set]; omega)] at h2
      cases h2
  · rw [lk_st_ne z] at h1
    rw [List.getElem?_set_ne z] at h2
    exact .inl ⟨j, c, h1, h2⟩
def gN (i : Nat) : DG := fun d r P => P (st r i (some (.dat d)))
def gT2 (i j : Nat) : DG := fun d r P => match d with
  | .tup [a, b] => P (st (st r i (some (.dat a))) j (some (.dat b)))
  | _ => False
def gT3 (i j k : Nat) : DG := fun d r P => match d with
  | .tup [a, b, c] => P (st (st (st r i (some (.dat a))) j (some (.dat b))) k (some (.dat c)))
  | _ => False
section
variable {X : Cx}
theorem imG {tg : Expr} {t u : TG} (h : PG X tg t) (f : ∀ v s H Q, u v s H Q → t v s H Q) : PG X tg u := ⟨fun pins s r H x v Q I rx q => h.run pins s r H x v Q I rx (f _ _ _ _ q)⟩
theorem setD {K : PySem.W.Frag} {B H : Hp} {s : L2.St} {r : DEnv} {i : Nat} {v : V} {d : D} (e : EnvRep K B H s r) (h : Rep K B v d) : EnvRep K B H (s.set i (some v)) (st r i (some (.dat d))) ∧ ∀ a, Owns (s.set i (some v)) (st r i (some (.dat d))) a → Owns s r a :=
  ⟨e.set (x := .dat d) h fun _ _ _ z => (nomatch z), fun a o => (Owns.set o).elim id fun ⟨_, c, z⟩ => nomatch z⟩
theorem qg_name {i : Nat} {x : Str} {pos : Pos} {vs : List Nat} (hm : i ∈ vs) (hN : X.N.Nodup) (hi : X.N[i]? = some x) (hx : Loc X.env.scope x) (hf : X.fn x = true ∨ X.env.scope.names.lookup x = some .local := by first | exact .inl rfl | exact .inr rfl | assumption) :
    PG X (.Name x pos) (LG X.K vs (gN i)) := imG (pg_name hN hi hx hf) fun v s H Q ⟨B, r, d, P, k, en, rd, p, hq⟩ => by
  obtain ⟨e, o⟩ := setD (i := i) en rd
  exact hq _ _ e (wipe_set hm) o p
theorem qg_t2 {a b : Expr} {j0 : Nat} {pos : Pos} {vs : List Nat} {i j : Nat} (hc : X.calm = true) (mi : i ∈ vs) (mj : j ∈ vs) (ha : PG X a (gName i)) (hb : PG X b (gName j))
    (h1 : (assignEach [a, b] X.env).map (·.2) = assign a X.env :: (assignEach [b] X.env).map (·.2) := by rfl) (h2 : (assignEach [b] X.env).map (·.2) = assign b X.env :: (assignEach [] X.env).map (·.2) := by rfl)
    (hn : (assignEach [a, b] X.env).length = 2 := by rfl) (hst : (assignEach [a, b] X.env).findIdx? (·.1) = none := by rfl) : PG X (.Tuple [a, b] j0 pos) (LG X.K vs (gT2 i j)) := by
  refine imG (pg_tup hc (pgs_cons ha (pgs_cons hb pgs_nil h2) h1) hn hst) fun v s H Q ⟨B, r, d, P, k, en, rd, p, hq⟩ => ?_
  unfold gT2 at p
  split at p
  · rename_i x y
    cases rd with
    | tup h rl =>
      cases rl with
      | cons rx rl =>
        cases rl with
        | cons ry rl =>
          cases rl
          obtain ⟨e1, o1⟩ := setD (i := i) en rx
          obtain ⟨e2, o2⟩ := setD (i := j) e1 ry
          refine ⟨_, _, rfl, kp_t k h, rfl, _, _, rfl, _, _, rfl, rfl, hq _ _ e2 ?_ (fun a o => o1 a (o2 a o)) p⟩
          rw [wipe_set mj, wipe_set mi]
  · exact p.elim
theorem qg_t3 {a b c : Expr} {j0 : Nat} {pos : Pos} {vs : List Nat} {i j l : Nat} (hc : X.calm = true) (mi : i ∈ vs) (mj : j ∈ vs) (ml : l ∈ vs) (ha : PG X a (gName i)) (hb : PG X b (gName j)) (hcc : PG X c (gName l))
    (h1 : (assignEach [a, b, c] X.env).map (·.2) = assign a X.env :: (assignEach [b, c] X.env).map (·.2) := by rfl) (h2 : (assignEach [b, c] X.env).map (·.2) = assign b X.env :: (assignEach [c] X.env).map (·.2) := by rfl)
    (h3 : (assignEach [c] X.env).map (·.2) = assign c X.env :: (assignEach [] X.env).map (·.2) := by rfl)
    (hn : (assignEach [a, b, c] X.env).length = 3 := by rfl) (hst : (assignEach [a, b, c] X.env).findIdx? (·.1) = none := by rfl) : PG X (.Tuple [a, b, c] j0 pos) (LG X.K vs (gT3 i j l)) := by
  refine imG (pg_tup hc (pgs_cons ha (pgs_cons hb (pgs_cons hcc pgs_nil h3) h2) h1) hn hst) fun v s H Q ⟨B, r, d, P, k, en, rd, p, hq⟩ => ?_
  unfold gT3 at p
  split at p
  · rename_i x y z
    cases rd with
    | tup h rl =>
      cases rl with
      | cons rx rl =>
        cases rl with
        | cons ry rl =>
          cases rl with
          | cons rz rl =>
            cases rl
            obtain ⟨e1, o1⟩ := setD (i := i) en rx
            obtain ⟨e2, o2⟩ := setD (i := j) e1 ry
            obtain ⟨e3, o3⟩ := setD (i := l) e2 rz
            refine ⟨_, _, rfl, kp_t k h, rfl, _, _, rfl, _, _, rfl, _, _, rfl, rfl, hq _ _ e3 ?_ (fun a o => o1 a (o2 a (o3 a o))) p⟩
            rw [wipe_set ml, wipe_set mj, wipe_set mi]
  · exact p.elim
end
section
variable {X : Cx} {W : WX}
/-! ### what is walked -/
def iAny (K : PySem.W.Frag) (tl : TE) : TI := fun s H R => tl s H fun x H1 => (∃ a, x = .ref a ∧ (∃ xs, SqL K H1 a xs) ∧ R (Itl K a) H1) ∨ (∃ a, x = .ref a ∧ (∃ xs, SqT K H1 a xs) ∧ R (Itt K a) H1) ∨ ∃ y, x = .str y ∧ R (Its y) H1
theorem pi_any {tg l : Expr} {tl : TE} (hl : PE X l tl) : PI X tg l (iAny X.K tl) := by
  refine ⟨fun pins s σ H R I h => ?_⟩
  refine thn (hl.run pins s σ H _ I h) fun v s1 ⟨x, H1, I1, r1, q1⟩ => ?_
  rcases q1 with ⟨a, e, ⟨xs, hq⟩, q⟩ | ⟨a, e, ⟨xs, hq⟩, q⟩ | ⟨y, e, q⟩
  · subst e
    cases r1
    obtain ⟨its, rv, p, hz⟩ := I1.list hq
    refine wpAny_pyIter_list p.isList ?_
    refine ⟨s1.heap.objs.size, [s1.heap.objs.size], _, _, H1, rfl, I1.kept (t' := s1.toks) fun b o e => Heap.get?_push_of_some _ e, turn_list a _, ⟨_, Heap.get?_push_size _ rfl, rfl, rfl⟩, fun b hb => ?_, q⟩
    have e : b = s1.heap.objs.size := by simpa using hb
    subst e
    exact I1.fpOk (Nat.le_refl _) (I1.hok.fresh (Nat.le_refl _))
  · subst e
    cases r1
    obtain ⟨its, rv, p, hz⟩ := I1.tuple hq
    refine wpAny_pyIter_tuple (show s1.heap.IsTuple a its.toArray from p) ?_
    refine ⟨s1.heap.objs.size, [s1.heap.objs.size], _, _, H1, rfl, I1.kept (t' := s1.toks) fun b o e => Heap.get?_push_of_some _ e, turn_tuple a _, ⟨_, Heap.get?_push_size _ rfl, rfl, rfl⟩, fun b hb => ?_, q⟩
    have e : b = s1.heap.objs.size := by simpa using hb
    subst e
    exact I1.fpOk (Nat.le_refl _) (I1.hok.fresh (Nat.le_refl _))
  · subst e
    obtain ⟨t, rfl⟩ := r1
    cases ha : y.cps.all (· < 128)
    · exact wpAny_pyIter_wide ha (pi_one (tk := s1.toks) I1 _ (turn_str _ y t "str_iterator" (.inr rfl)) ⟨_, Heap.get?_push_size _ rfl, rfl, rfl⟩ q)
    · exact wpAny_pyIter_ascii ha (pi_one (tk := s1.toks) I1 _ (turn_str _ y t "str_ascii_iterator" (.inl rfl)) ⟨_, Heap.get?_push_size _ rfl, rfl, rfl⟩ q)
/-- the things that one walks over -/
def fItD (P : List D → Prop) : D → Prop
  | .lst l => P l
  | .tup l => P l
  | .scr l => P (l.map D.int)
  | .str y => P (y.cps.toList.map fun c => D.str ⟨#[c]⟩)
  | _ => False
def fIt (x : Val) (P : List D → Prop) : Prop := fItD P x.d
def dIt (de : DE) : DI := fun xc r P => de xc r fun x => fIt x P
theorem itok_list {K : PySem.W.Frag} {a : Addr} {vs : List V} {ds : List D} {B H : Hp} {src : Addr → Prop} (stay : ∀ B2 H2, Kp B B2 → Kp B2 H2 → (∀ p o, src p → H p = some o → H2 p = some o ∧ B2 p = none) → SqL K H2 a vs) (r : RepL K B vs ds) : ItOk K (Itl K a) ds B H src := by
  intro B2 H2 i k1 k2 hs
  have q := stay B2 H2 k1 k2 hs
  refine ⟨fun d hd => ?_, fun hn => ⟨vs, q, by rw [r.length]; exact Nat.le_of_eq hn⟩⟩
  obtain ⟨v, hv, rv⟩ := r.get hd
  refine ⟨⟨vs, v, q, hv⟩, fun x H3 y => ?_⟩
  obtain ⟨e, y⟩ := y
  subst e
  have z := y vs q
  rw [hv] at z
  cases z
  exact ⟨B2, .refl k2, rv.mono k1⟩
theorem itok_tup {K : PySem.W.Frag} {a : Addr} {vs : List V} {ds : List D} {B H : Hp} {src : Addr → Prop} (h : SqT K B a vs) (r : RepL K B vs ds) : ItOk K (Itt K a) ds B H src := by
  intro B2 H2 i k1 k2 hs
  have q := kp_t k2 (kp_t k1 h)
  refine ⟨fun d hd => ?_, fun hn => ⟨vs, q, by rw [r.length]; exact Nat.le_of_eq hn⟩⟩
  obtain ⟨v, hv, rv⟩ := r.get hd
  refine ⟨⟨vs, v, q, hv⟩, fun x H3 y => ?_⟩
  obtain ⟨e, y⟩ := y
  subst e
  have z := y vs q
  rw [hv] at z
  cases z
  exact ⟨B2, .refl k2, rv.mono k1⟩
theorem itok_str {K : PySem.W.Frag} {y : Str} {B H : Hp} {src : Addr → Prop} : ItOk K (Its y) (y.cps.toList.map fun c => D.str ⟨#[c]⟩) B H src := by
  intro B2 H2 i k1 k2 hs
  refine ⟨fun d hd => ?_, fun hn => ?_⟩
  · rw [List.getElem?_map, Array.getElem?_toList] at hd
    cases e : y.cps[i]? with
    | none => rw [e] at hd; cases hd
    | some c =>
      rw [e] at hd
      cases hd
      refine ⟨(Array.getElem?_eq_some_iff.mp e).1, fun x H3 z => ?_⟩
      obtain ⟨e2, c', e3, rfl⟩ := z
      subst e2
      rw [e] at e3
      cases e3
      exact ⟨B2, .refl k2, .str _⟩
  · rw [List.length_map, Array.length_toList] at hn
    exact Nat.le_of_eq hn
theorem qi_any {tg e : Expr} {de : DE} (h : PE X e (L X.K W true de)) : PI X tg e (LI X.K W (dIt de)) := by
  refine imI (pi_any h) fun s H R ⟨B, r, xc, P, k, en, h, hx, hq⟩ => ⟨B, r, xc, _, k, en, h, hx, fun x vx H1 B1 s1 rx fr q => ?_⟩
  unfold fIt fItD at q
  split at q
  · rename_i l e
    cases vx with
    | dat d =>
      cases (show d = .lst l from e)
      cases rx with
      | lst hb rl =>
        exact .inl ⟨_, rfl, ⟨_, .inl (.inl ((s1.sub _ _ hb).1 DrawO.lst))⟩, hq _ l H1 B1 (fun _ => False) s1 (fun _ z => z.elim)
          (itok_list (fun B2 H2 k1 k2 _ => kp_l k2 (kp_l k1 (.inl (.inl hb)))) rl) q⟩
    | tmp c =>
      cases c with
      | dic _ => cases e
      | lst es =>
        cases (show D.lst es = D.lst l from e)
        obtain ⟨p, rfl, n, vs, hp, rl⟩ := rx
        exact .inl ⟨_, rfl, ⟨_, .inl (.inl hp)⟩, hq _ l H1 B1 (fun a => a = p) s1 (fun a z => by subst z; exact ⟨fr rfl _ _ rfl rfl, n, _, hp⟩)
          (itok_list (fun B2 H2 k1 k2 st => .inl (.inl (st p _ rfl hp).1)) rl) q⟩
  · rename_i l e
    obtain ⟨p, vs, rfl, hb, hp, rl⟩ := rv_tup s1.sub rx e
    exact .inr (.inl ⟨_, rfl, ⟨_, hp⟩, hq _ l H1 B1 (fun _ => False) s1 (fun _ z => z.elim) (itok_tup hb rl) q⟩)
  · rename_i l e
    cases vx with
    | tmp c => cases c <;> cases e
    | dat d =>
      cases (show d = .scr l from e)
      cases rx with
      | scr hb => exact .inl ⟨_, rfl, ⟨_, kp_l s1.sub hb⟩, hq _ _ H1 B1 (fun _ => False) s1 (fun _ z => z.elim) (itok_list (fun B2 H2 k1 k2 _ => kp_l k2 (kp_l k1 hb)) (RepL.ints l)) q⟩
  · rename_i y e
    have ex := rv_str rx e
    exact .inr (.inr ⟨y, ex, hq _ _ H1 B1 (fun _ => False) s1 (fun _ z => z.elim) itok_str q⟩)
  · exact q.elim
/-- range(n), range(a, b) -/
def rngD (lo : Int) (n : Nat) : List D := (List.range n).map fun i => D.int (lo + (i : Nat))
theorem itok_rng {K : PySem.W.Frag} {lo : Int} {n : Nat} {B H : Hp} {src : Addr → Prop} : ItOk K (Itr lo n) (rngD lo n) B H src := by
  intro B2 H2 i k1 k2 hs
  refine ⟨fun d hd => ?_, fun hn => ?_⟩
  · unfold rngD at hd
    rw [List.getElem?_map] at hd
    have hl : i < n := by
      rcases Nat.lt_or_ge i n with z | z
      · exact z
      · rw [List.getElem?_eq_none (by rw [List.length_range]; exact z)] at hd
        cases hd
    rw [List.getElem?_range hl] at hd
    cases hd
    refine ⟨hl, fun x H3 z => ?_⟩
    obtain ⟨e2, rfl⟩ := z
    subst e2
    exact ⟨B2, .refl k2, .int _⟩
  · unfold rngD at hn
    rw [List.length_map, List.length_range] at hn
    exact Nat.le_of_eq hn
def dRng1 (da : DA) : DI := fun xc r P => da xc r fun ds => match ds with
  | [.int n] => (-(2 ^ 62) ≤ n ∧ n < 2 ^ 62) ∧ P (rngD 0 n.toNat)
  | _ => False
def dRng2 (da : DA) : DI := fun xc r P => da xc r fun ds => match ds with
  | [.int a, .int b] => (-(2 ^ 62) ≤ a ∧ a < 2 ^ 62 ∧ -(2 ^ 62) ≤ b ∧ b < 2 ^ 62) ∧ P (rngD a (b - a).toNat)
  | _ => False
theorem qi_rng1 {tg a : Expr} {p pos : Pos} {da : DA} (hg : Gl X "range") (hm : X.mg "range" = none) (ha : PA X [a] (LA X.K W da)) (hs : starEach [a] X.env = [(false, eval a X.env)] := by rfl) : PI X tg (.Call (.Name "range" p) [a] [] pos) (LI X.K W (dRng1 da)) := by
  refine imI (pi_range1 hg hm ha hs) fun s H R ⟨B, r, xc, P, k, en, h, hx, hq⟩ => ⟨B, r, xc, _, k, en, h, hx, fun vs ds H1 B1 s1 rl q => ?_⟩
  split at q
  · rename_i n
    cases rl with
    | cons h1 rl =>
      cases rl
      cases h1
      exact ⟨n, rfl, q.1.1, q.1.2, hq _ _ H1 B1 (fun _ => False) s1 (fun _ z => z.elim) itok_rng q.2⟩
  · exact q.elim
theorem qi_rng2 {tg a b : Expr} {p pos : Pos} {da : DA} (hg : Gl X "range") (hm : X.mg "range" = none) (ha : PA X [a, b] (LA X.K W da)) (hs : starEach [a, b] X.env = [(false, eval a X.env), (false, eval b X.env)] := by rfl) (hs2 : starEach [b] X.env = [(false, eval b X.env)] := by rfl) :
    PI X tg (.Call (.Name "range" p) [a, b] [] pos) (LI X.K W (dRng2 da)) := by
  refine imI (pi_range2 hg hm ha hs hs2) fun s H R ⟨B, r, xc, P, k, en, h, hx, hq⟩ => ⟨B, r, xc, _, k, en, h, hx, fun vs ds H1 B1 s1 rl q => ?_⟩
  split at q
  · rename_i n m
    cases rl with
    | cons h1 rl =>
      cases rl with
      | cons h2 rl =>
        cases rl
        cases h1
        cases h2
        exact ⟨n, m, rfl, q.1, hq _ _ H1 B1 (fun _ => False) s1 (fun _ z => z.elim) itok_rng q.2⟩
  · exact q.elim
/-! ### list comprehensions -/
def W0 : WX := fun _ _ _ _ => False
def X0 : DX := fun _ _ => False
def dYes : DT := fun _ _ P => P true
/-- a comprehension over these things: I by the turn and what is made so far -/
def Lc (tg : DG) (cond : DT) (elt : DE) (own : List Nat) (r : DEnv) (P : Val → Prop) (items : List D) : Prop := ∃ I : Nat → List D → Prop, I 0 [] ∧
  (∀ i x acc, items[i]? = some x → I i acc → tg x (wp r own) fun r2 => cond X0 r2 fun b => ifB b (elt X0 r2 fun y => asD (fun d => acc.length < sizeLine ∧ I (i + 1) (acc ++ [d])) y) (I (i + 1) acc)) ∧ ∀ acc, I items.length acc → P (.tmp (.lst acc))
def dLc (di : DI) (tg : DG) (cond : DT) (elt : DE) (own : List Nat) : DE := fun xc r P => di xc r (Lc tg cond elt own r P)
theorem l_lc {di : DI} {tg : DG} {cond : DT} {elt : DE} {own : List Nat} (s : L2.St) (H : Hp) (Q : VK) (h : L X.K W true (dLc di tg cond elt own) s H Q) :
    tLc (LI X.K W di) (LG X.K own tg) (LT X.K W0 cond) (L X.K W0 true elt) own s H Q := by
  obtain ⟨B, r, xc, P, k, en, h, hx, hq⟩ := h
  refine ⟨B, r, xc, _, k, en, h, hx, fun J items H1 B1 src s1 hsrc it q => fun Da nD => ?_⟩
  obtain ⟨I, i0, turn, fin⟩ := q
  refine ⟨fun i m H => ∃ B2 vs acc, m = items.length - i ∧ i ≤ items.length ∧ Step B1 H1 B2 H ∧ H Da = some (.lst vs) ∧ B2 Da = none ∧ RepL X.K B2 vs acc ∧ I i acc,
    ⟨items.length, B1, [], [], by omega, Nat.zero_le _, .tmp s1.sub nD, upd_same, s1.sub.none nD, .nil, i0⟩, ?_⟩
  rintro i m H2 ⟨B2, vs, acc, rfl, hi, s2, hD, bD, rl, inv⟩
  have z := it B2 H2 i s2.kp s2.sub fun p o hp ho => s2.out p o ho (hsrc p hp).2.1
  by_cases hlt : i < items.length
  · obtain ⟨d, hd⟩ : ∃ d, items[i]? = some d := ⟨items[i], by simp [hlt]⟩
    obtain ⟨go, yl⟩ := z.1 d hd
    refine .inr ⟨go, fun H' => ∃ B2 vs acc, Step B1 H1 B2 H' ∧ H' Da = some (.lst vs) ∧ B2 Da = none ∧ RepL X.K B2 vs acc ∧ I (i + 1) acc, fun H' ⟨B3, vs3, acc3, s3, hD3, bD3, rl3, inv3⟩ => ⟨items.length - (i + 1), by omega, B3, vs3, acc3, rfl, hlt, s3, hD3, bD3, rl3, inv3⟩, fun x H3 y => ?_⟩
    obtain ⟨B3, s3, rx⟩ := yl x H3 y
    have hD3 := s3.out Da _ hD bD
    have s13 := s1.trans (s2.trans s3)
    have en3 := (en.step s13).wipe own
    refine ⟨B3, wp r own, d, _, s3.sub, en3, rx, turn i d acc hd inv, fun s' r' en' hw _ q => ?_⟩
    rw [show wipe (wipe s own) own = wipe s own from ?_] at hw
    · refine ⟨hw, B3, r', X0, _, s3.sub, en', q, fun _ _ _ _ _ _ _ z => z.elim, fun b H4 B4 s4 q => ?_⟩
      have hD4 := s4.out Da _ hD3.1 hD3.2
      cases b with
      | false =>
        unfold ifB at q; rw [if_neg Bool.false_ne_true] at q
        refine iteF ?_
        exact ⟨B4, vs, acc, s2.trans (s3.trans s4), hD4.1, hD4.2, rl.mono (s3.kp.trans s4.kp), q⟩
      | true =>
        unfold ifB at q; rw [if_pos rfl] at q
        refine iteT ?_
        refine ⟨B4, r', X0, _, s4.sub, en'.step s4, q, fun _ _ _ _ _ _ _ z => z.elim, fun v vx H5 B5 s5 rv fr q => ?_⟩
        have hD5 := s5.out Da _ hD4.1 hD4.2
        cases vx with
        | tmp c => exact q.elim
        | dat e =>
          obtain ⟨hl, q⟩ := q
          have rl5 : RepL X.K B5 vs acc := rl.mono (s3.kp.trans (s4.kp.trans s5.kp))
          have s25 := s2.trans (s3.trans (s4.trans s5))
          refine ⟨vs, hD5.1, by rw [rl5.length]; exact hl, B5, vs ++ [v], acc ++ [e], ⟨s25.kp, s25.sub.upd hD5.2, fun a o h n => ?_⟩, upd_same, hD5.2, rl5.append (.cons rv .nil), q⟩
          have ne : a ≠ Da := fun z => by rw [z, nD] at h; cases h
          rw [upd_ne ne]
          exact s25.out a o h n
    · have idem : ∀ l : List Nat, ∀ s : L2.St, wipe (wipe s l) l = wipe s l := by
        have comm : ∀ (l : List Nat) (v : Nat) (s : L2.St), wipe (s.set v none) l = (wipe s l).set v none := by
          intro l
          induction l with
          | nil => intro v s; rfl
          | cons a l ih =>
            intro v s
            show (wipe (s.set v none) l).set a none = ((wipe s l).set a none).set v none
            rw [ih]
            by_cases z : v = a
            · subst z; rfl
            · exact List.set_comm _ _ z
        intro l
        induction l with
        | nil => intro s; rfl
        | cons a l ih =>
          intro s
          show (wipe ((wipe s l).set a none) l).set a none = (wipe s l).set a none
          rw [comm, ih, List.set_set]
      exact idem own s
  · have e : i = items.length := by omega
    subst e
    exact .inl ⟨z.2 rfl, hq _ (.tmp (.lst acc)) H2 B2 (s1.trans s2) ⟨Da, rfl, bD, vs, hD, rl⟩ (fun _ p c e _ => by cases e; exact s1.free nD) (fin acc inv)⟩
theorem q_lc {elt tg iter : Expr} {ifs : List Expr} {scope : Scope} {own : List (Str × Nat)} {pos : Pos} {di : DI} {dg : DG} {cond : DT} {de : DE} (hc : X.calm = true) (hN : X.N.Nodup) (hi : PI X tg iter (LI X.K W di)) (ok : BlkOk X.N X.env.scope scope own)
    (hg : ∀ (s : Shared) (H : Hp) (C : Addr) (cl : List (Str × Addr)) (fp : List Addr), PG (X.blk s H scope (compEnvC scope cl C X.env) fp) tg (LG X.K (own.map (·.2)) dg)) (ht : ∀ (s : Shared) (H : Hp) (C : Addr) (cl : List (Str × Addr)) (fp : List Addr), PTs (X.blk s H scope (compEnvC scope cl C X.env) fp) ifs (LT X.K W0 cond))
    (he : ∀ (s : Shared) (H : Hp) (C : Addr) (cl : List (Str × Addr)) (fp : List Addr), PE (X.blk s H scope (compEnvC scope cl C X.env) fp) elt (L X.K W0 true de)) (hs : ∀ x, foldedSetIterable iter X.env x = pure x := by intro _; rfl) :
    PE X (.ListComp elt [⟨tg, iter, ifs, 0⟩] scope pos) (L X.K W true (dLc di dg cond de (own.map (·.2)))) := imE (pe_lc hc hN hi ok hg ht he hs) l_lc
theorem qts_nil : PTs X [] (LT X.K W dYes) := ⟨fun pins s t H Q I ⟨B, r, xc, P, k, en, h, hx, hq⟩ => pts_nil.run pins s t H Q I (hq true H B (.refl k) h)⟩
theorem qts_one {c : Expr} {t : DT} (h : PT X c (LT X.K W t)) : PTs X [c] (LT X.K W t) := pts_one h
/-! ### calls of the text's own defs -/
def dCall (sp : DSp) (da : DA) : DE := fun xc r P => da xc r fun ds => sp ds (fun _ => False) P
def dCallX (sp : DSp) (da : DA) : DE := fun xc r P => da xc r fun ds => sp ds (fun e => xc e r) P
theorem q_call {x : Str} {p pos : Pos} {e : Expr} {es : List Expr} {k : Nat} {f : Addr} {fd : FuncData} {ps : List Str} {sp : DSp} {da : DA} (F : FnOk X.prog X.w X.K X.mg X.base CX0 k f fd ps (spD X.K sp)) (hr : Room k X.A) (hg : Gl X x) (hm : X.mg x = some (.ref f)) (hk : PySem.W.keepIn X.K (.ref f) = true) (hb : Binds X.K fd ps [])
    (ha : PA X (e :: es) (LA X.K W da)) (hdb : (x == ("__debug__" : Str)) = false := by decide) (he : starEach (e :: es) X.env = (false, eval e X.env) :: starEach es X.env := by rfl) (hpl : (backTo pos (starEach es X.env)).any (·.1) = false := by rfl) :
    PE X (.Call (.Name x p) (e :: es) [] pos) (L X.K W true (dCall sp da)) := by
  refine imE (pe_call F hr hg hm hk hb .nil pass0 ha hdb he hpl) fun s H Q ⟨B, r, xc, P, k, en, h, hx, hq⟩ => ⟨B, r, xc, _, k, en, h, hx, fun vs ds H1 B1 s1 rl q => ?_⟩
  show spD X.K sp (vs ++ []) H1 Q E0
  rw [List.append_nil]
  exact ⟨B1, ds, _, P, s1.sub, rl, q, fun _ _ _ _ _ _ _ z => z.elim, fun v x H' B' s2 rv fr p => hq v x H' B' (s1.trans s2) rv (fun _ => fr.back s1) p⟩
theorem q_call0 {x : Str} {p pos : Pos} {k : Nat} {f : Addr} {fd : FuncData} {ps : List Str} {sp : DSp} (F : FnOk X.prog X.w X.K X.mg X.base CX0 k f fd ps (spD X.K sp)) (hr : Room k X.A) (hg : Gl X x) (hm : X.mg x = some (.ref f)) (hk : PySem.W.keepIn X.K (.ref f) = true) (hb : Binds X.K fd ps [])
    (hdb : (x == ("__debug__" : Str)) = false := by decide) : PE X (.Call (.Name x p) [] [] pos) (L X.K W true (dCall sp dNil)) := by
  refine imE (pe_call0 F hr hg hm hk hb .nil pass0 hdb) fun s H Q ⟨B, r, xc, P, k, en, h, hx, hq⟩ => ?_
  exact ⟨B, [], _, P, k, .nil, h, fun _ _ _ _ _ _ _ z => z.elim, fun v x H' B' s2 rv fr p => hq v x H' B' s2 rv (fun _ => fr) p⟩
theorem q_callX {x : Str} {p pos : Pos} {e : Expr} {es : List Expr} {k : Nat} {f : Addr} {fd : FuncData} {ps : List Str} {sp : DSp} {da : DA} (F : FnOk X.prog X.w X.K X.mg X.base (L2.CX X.prog X.w) k f fd ps (spD X.K sp)) (hr : Room k X.A) (hg : Gl X x) (hm : X.mg x = some (.ref f)) (hk : PySem.W.keepIn X.K (.ref f) = true) (hb : Binds X.K fd ps [])
    (tk : Takes X W) (ha : PA X (e :: es) (LA X.K W da)) (hdb : (x == ("__debug__" : Str)) = false := by decide) (he : starEach (e :: es) X.env = (false, eval e X.env) :: starEach es X.env := by rfl) (hpl : (backTo pos (starEach es X.env)).any (·.1) = false := by rfl) :
    PE X (.Call (.Name x p) (e :: es) [] pos) (L X.K W true (dCallX sp da)) := by
  refine imE (pe_callS F hr hg hm hk hb (fun s => passAt tk s) ha hdb he hpl) fun s H Q ⟨B, r, xc, P, k, en, h, hx, hq⟩ => ⟨B, r, xc, _, k, en, h, hx, fun vs ds H1 B1 s1 rl q => ?_⟩
  exact ⟨B1, ds, _, P, s1.sub, rl, q, fun cls d e H' B' s2 => hx cls d e H' B' (s1.trans s2), fun v x H' B' s2 rv fr p => hq v x H' B' (s1.trans s2) rv (fun _ => fr.back s1) p⟩
/-! ### statements -/
def dNext : DS := fun _ E r => E.nx r
def dSeq (t u : DS) : DS := fun xc E r => t xc { E with nx := u xc E } r
def dSet (i : Nat) (de : DE) : DS := fun xc E r => de xc r fun x => E.nx (st r i (some x))
def dRet (de : DE) : DS := fun xc E r => de xc r E.rt
/-- return x, x a local: what it owns goes with it -/
def dRetV (i : Nat) : DS := fun xc E r => match lk r i with
  | some x => E.rt x
  | none => False
def dRetN : DS := fun _ E _ => E.rt (.dat .non)
def dDrop (de : DE) : DS := fun xc E r => de xc r fun _ => E.nx r
def dIfS (t : DT) (u v : DS) : DS := fun xc E r => t xc r fun b => ifB b (u xc E r) (v xc E r)
def dBreak : DS := fun _ E r => E.bk r
def dCont : DS := fun _ E r => E.ct r
theorem ls_nx {E : Ends} {s : L2.St} {H B : Hp} {r : DEnv} {ds : DS} (h : LS X.K W ds E s H) : ∃ B r xc De, Kp B H ∧ EnvRep X.K B H s r ∧ ds xc De r ∧ True := by
  obtain ⟨B, r, xc, De, k, en, h, _⟩ := h
  exact ⟨B, r, xc, De, k, en, h, trivial⟩
theorem qss_nil : PSs X [] (LS X.K W dNext) := imSs pss_nil fun E s H ⟨B, r, xc, De, k, en, h, hx, nx, bk, ct, rt⟩ => nx s r H B (.refl k) en h
theorem qs_pass {pos : Pos} : PS X (.Pass pos) (LS X.K W dNext) := imS ps_pass fun E s H ⟨B, r, xc, De, k, en, h, hx, nx, bk, ct, rt⟩ => nx s r H B (.refl k) en h
theorem qs_break {pos : Pos} : PS X (.Break pos) (LS X.K W dBreak) := imS ps_break fun E s H ⟨B, r, xc, De, k, en, h, hx, nx, bk, ct, rt⟩ => bk s r H B (.refl k) en h
theorem qs_continue {pos : Pos} : PS X (.Continue pos) (LS X.K W dCont) := imS ps_continue fun E s H ⟨B, r, xc, De, k, en, h, hx, nx, bk, ct, rt⟩ => ct s r H B (.refl k) en h
theorem qss_one {a : Stmt} {t : DS} (h : PS X a (LS X.K W t)) : PSs X [a] (LS X.K W t) := pss_one h
theorem qss_cons {a : Stmt} {rest : List Stmt} {t u : DS} (h1 : PS X a (LS X.K W t)) (h2 : PSs X rest (LS X.K W u)) : PSs X (a :: rest) (LS X.K W (dSeq t u)) := by
  refine imSs (pss_cons h1 h2) fun E s H ⟨B, r, xc, De, k, en, h, hx, nx, bk, ct, rt⟩ => ?_
  refine ⟨B, r, xc, { De with nx := u xc De }, k, en, h, hx, fun s' r' H' B' z en' q => ?_, bk, ct, rt⟩
  exact ⟨B', r', xc, De, z.sub, en', q, fun cls d e s2 r2 H2 B2 z2 => hx cls d e s2 r2 H2 B2 (z.trans z2), fun s2 r2 H2 B2 z2 => nx s2 r2 H2 B2 (z.trans z2), fun s2 r2 H2 B2 z2 => bk s2 r2 H2 B2 (z.trans z2), fun s2 r2 H2 B2 z2 => ct s2 r2 H2 B2 (z.trans z2), fun v x H2 B2 z2 => rt v x H2 B2 (z.trans z2)⟩
theorem StepS.set {B H B' H' : Hp} {s : L2.St} {r : DEnv} {i : Nat} {v : V} {x : Val} (z : Step B H B' H') (f : Fr H v x) : StepS B H s r B' H' (s.set i (some v)) (st r i (some x)) :=
  ⟨z.kp, z.sub, fun a o h n w => ⟨(z.out a o h n).1, (z.out a o h n).2, fun ow => (Owns.set ow).elim w fun ⟨e, c, ex⟩ => by rw [f a c e ex] at h; cases h⟩⟩
theorem EnvRep.setN {K : PySem.W.Frag} {B H B' H' : Hp} {s : L2.St} {r : DEnv} {i : Nat} {v : V} {x : Val} (en : EnvRep K B H s r) (z : Step B H B' H') (rv : RepV K B' H' v x) (f : Fr H v x) : EnvRep K B' H' (s.set i (some v)) (st r i (some x)) :=
  (en.step z).set rv fun a c e ex ow => by
    obtain ⟨_, o, h⟩ := en.owned ow
    rw [f a c e ex] at h
    cases h
theorem qs_set {i : Nat} {x : Str} {e : Expr} {de : DE} {pos pos' : Pos} (hN : X.N.Nodup) (hi : X.N[i]? = some x) (hx : Loc X.env.scope x) (he : PE X e (L X.K W true de)) (hs : swapsWith e (some (.Name x pos')) pos.line X.env = pure false := by rfl) (hf : X.fn x = true ∨ X.env.scope.names.lookup x = some .local := by first | exact .inl rfl | exact .inr rfl | assumption) :
    PS X (.Assign [.Name x pos'] e pos) (LS X.K W (dSet i de)) := by
  refine imS (ps_set hN hi hx he hs hf) fun E s H ⟨B, r, xc, De, k, en, h, hx, nx, bk, ct, rt⟩ => ?_
  exact ⟨B, r, xc, _, k, en, h, fun cls d e H' B' z => hx cls d e s r H' B' z.s (en.step z), fun v x H' B' z rv fr p => nx _ _ H' B' (.set z (fr rfl)) (en.setN z rv (fr rfl)) p⟩
theorem step_rt {B H B' H' : Hp} {s : L2.St} {r : DEnv} {v : V} {x : Val} (z : Step B H B' H') (f : Fr H v x) : StepS B H s r B' H' [some v] [some x] :=
  ⟨z.kp, z.sub, fun a o h n w => ⟨(z.out a o h n).1, (z.out a o h n).2, fun ow => by
    obtain ⟨j, c, h1, h2⟩ := ow
    cases j with
    | zero =>
      have e1 : x = .tmp c := Option.some.inj h1
      have e2 : v = .ref a := Option.some.inj (Option.some.inj h2)
      rw [f a c e2 e1] at h
      cases h
    | succ j => cases h1⟩⟩
theorem qs_ret {e : Expr} {de : DE} {pos : Pos} (he : PE X e (L X.K W true de)) : PS X (.Return (some e) pos) (LS X.K W (dRet de)) := by
  refine imS (ps_ret he) fun E s H ⟨B, r, xc, De, k, en, h, hx, nx, bk, ct, rt⟩ => ?_
  exact ⟨B, r, xc, _, k, en, h, fun cls d e H' B' z => hx cls d e s r H' B' z.s (en.step z), fun v x H' B' z rv fr p => rt v x H' B' (step_rt z (fr rfl)) rv p⟩
theorem qs_retV (i : Nat) {x : Str} {pos pos' : Pos} (hN : X.N[i]? = some x := by rfl) (hv : Vis X.env.scope x := by first | exact Or.inl rfl | exact Or.inr (Or.inl rfl) | exact Or.inr (Or.inr rfl)) (hd : (x == ("__debug__" : Str)) = false := by decide)
    (hcd : (x == ("__classdict__" : Str)) = false := by decide) : PS X (.Return (some (.Name x pos)) pos') (LS X.K W (dRetV i)) := by
  refine imS (ps_ret (pv i hN hv hd hcd)) fun E s H ⟨B, r, xc, De, k, en, h, hx, nx, bk, ct, rt⟩ => ?_
  unfold dRetV at h
  cases e : lk r i with
  | none => rw [e] at h; exact h.elim
  | some y =>
    rw [e] at h
    obtain ⟨v, h1, h2⟩ := en.at_ i y e
    refine ⟨v, h1, rt v y H B ⟨.refl B, k, fun a o ha n w => ⟨ha, n, fun ow => ?_⟩⟩ h2 h⟩
    obtain ⟨j, c, q1, q2⟩ := ow
    cases j with
    | zero =>
      have e1 : y = .tmp c := Option.some.inj q1
      have e2 : v = .ref a := Option.some.inj (Option.some.inj q2)
      rw [e2] at h1
      rw [e1] at e
      exact w ⟨i, c, e, h1⟩
    | succ j => cases q1
theorem qs_retN {pos : Pos} : PS X (.Return none pos) (LS X.K W dRetN) := by
  refine imS ps_retN fun E s H ⟨B, r, xc, De, k, en, h, hx, nx, bk, ct, rt⟩ => ?_
  exact rt .non (.dat .non) H B (step_rt (.refl k) Fr.dat) .non h
theorem qs_expr {e : Expr} {de : DE} {pos : Pos} {f : Bool} (he : PE X e (L X.K W f de)) (hs : swapsWith e none pos.line X.env = pure false := by rfl) : PS X (.Expr e pos) (LS X.K W (dDrop de)) := by
  refine imS (ps_expr he hs) fun E s H ⟨B, r, xc, De, k, en, h, hx, nx, bk, ct, rt⟩ => ?_
  exact ⟨B, r, xc, _, k, en, h, fun cls d e H' B' z => hx cls d e s r H' B' z.s (en.step z), fun v x H' B' z rv fr p => nx _ _ H' B' z.s (en.step z) p⟩
theorem qs_if {c : Expr} {a b : List Stmt} {pos : Pos} {t : DT} {u v : DS} (hc : PT X c (LT X.K W t)) (ha : PSs X a (LS X.K W u)) (hb : PSs X b (LS X.K W v)) : PS X (.If c a b pos) (LS X.K W (dIfS t u v)) := by
  refine imS (ps_if hc ha hb) fun E s H ⟨B, r, xc, De, k, en, h, hx, nx, bk, ct, rt⟩ => ?_
  refine ⟨B, r, xc, _, k, en, h, fun cls d e H' B' z => hx cls d e s r H' B' z.s (en.step z), fun b H1 B1 z q => ?_⟩
  cases b with
  | true =>
    unfold ifB at q; rw [if_pos rfl] at q ⊢
    exact ⟨B1, r, xc, De, z.sub, en.step z, q, fun cls d e s2 r2 H2 B2 z2 => hx cls d e s2 r2 H2 B2 (z.s.trans z2), fun s2 r2 H2 B2 z2 => nx s2 r2 H2 B2 (z.s.trans z2), fun s2 r2 H2 B2 z2 => bk s2 r2 H2 B2 (z.s.trans z2), fun s2 r2 H2 B2 z2 => ct s2 r2 H2 B2 (z.s.trans z2), fun v x H2 B2 z2 => rt v x H2 B2 (z.s.trans z2)⟩
  | false =>
    unfold ifB at q; rw [if_neg Bool.false_ne_true] at q ⊢
    exact ⟨B1, r, xc, De, z.sub, en.step z, q, fun cls d e s2 r2 H2 B2 z2 => hx cls d e s2 r2 H2 B2 (z.s.trans z2), fun s2 r2 H2 B2 z2 => nx s2 r2 H2 B2 (z.s.trans z2), fun s2 r2 H2 B2 z2 => bk s2 r2 H2 B2 (z.s.trans z2), fun s2 r2 H2 B2 z2 => ct s2 r2 H2 B2 (z.s.trans z2), fun v x H2 B2 z2 => rt v x H2 B2 (z.s.trans z2)⟩
/-- a loop over these things: I by the turn and the names -/
def Fo (tg : DG) (body : DS) (xc : DX) (E : DEnds) (r : DEnv) (items : List D) : Prop := ∃ I : Nat → DEnv → Prop, I 0 r ∧
  (∀ i x r, items[i]? = some x → I i r → tg x r fun r2 => body xc { E with nx := I (i + 1), ct := I (i + 1), bk := E.nx } r2) ∧ ∀ r, I items.length r → E.nx r
def dFor (di : DI) (tg : DG) (body : DS) : DS := fun xc E r => di xc r (Fo tg body xc E r)
theorem qs_for {tg iter : Expr} {body : List Stmt} {pos : Pos} {di : DI} {dg : DG} {vs : List Nat} {db : DS} (hp : PassesOwn (model X.prog X.w) X.A X.env X.xe) (hc : X.calm = true) (hi : PI X tg iter (LI X.K W di)) (hg : PG X tg (LG X.K vs dg)) (hb : PSs X body (LS X.K W db))
    (hs : ∀ x, foldedSetIterable iter X.env x = pure x := by intro _; rfl) : PS X (.For tg iter body [] pos) (LS X.K W (dFor di dg db)) := by
  refine imS (ps_for hp hc hi hg hb hs) fun E s H ⟨B, r, xc, De, k, en, h, hx, nx, bk, ct, rt⟩ => ?_
  refine ⟨B, r, xc, _, k, en, h, fun cls d e H' B' z => hx cls d e s r H' B' z.s (en.step z), fun J items H1 B1 src z1 hsrc it q => ?_⟩
  obtain ⟨I, i0, turn, fin⟩ := q
  refine ⟨fun i m s2 H2 => ∃ B2 r2, m = items.length - i ∧ i ≤ items.length ∧ StepS B1 H1 s r B2 H2 s2 r2 ∧ EnvRep X.K B2 H2 s2 r2 ∧ I i r2, ⟨items.length, B1, r, by omega, Nat.zero_le _, .refl z1.sub, en.step z1, i0⟩, ?_⟩
  rintro i m s2 H2 ⟨B2, r2, rfl, hi, z2, en2, inv⟩
  have src2 : ∀ p o, src p → H1 p = some o → H2 p = some o ∧ B2 p = none := fun p o hp ho => by
    obtain ⟨h0, h1, _⟩ := hsrc p hp
    have w : ¬ Owns s r p := fun ow => by
      obtain ⟨_, o, h⟩ := en.owned ow
      rw [h0] at h
      cases h
    exact ⟨(z2.out p o ho h1 w).1, (z2.out p o ho h1 w).2.1⟩
  have zz := it B2 H2 i z2.kp z2.sub src2
  by_cases hlt : i < items.length
  · obtain ⟨d, hd⟩ : ∃ d, items[i]? = some d := ⟨items[i], by simp [hlt]⟩
    obtain ⟨go, yl⟩ := zz.1 d hd
    refine .inr ⟨go, fun s3 H3 => ∃ B3 r3, StepS B1 H1 s r B3 H3 s3 r3 ∧ EnvRep X.K B3 H3 s3 r3 ∧ I (i + 1) r3, fun s3 H3 ⟨B3, r3, z3, en3, inv3⟩ => ⟨items.length - (i + 1), by omega, B3, r3, rfl, hlt, z3, en3, inv3⟩, fun x H3 y => ?_⟩
    obtain ⟨B3, z3, rx⟩ := yl x H3 y
    have en3 := en2.step z3
    refine ⟨B3, r2, d, _, z3.sub, en3, rx, turn i d r2 hd inv, fun s4 r4 en4 hw ow q => ?_⟩
    have z4 : StepS B1 H1 s r B3 H3 s4 r4 := z2.trans ⟨z3.kp, z3.sub, fun a o h n w => ⟨(z3.out a o h n).1, (z3.out a o h n).2, fun q => w (ow a q)⟩⟩
    exact ⟨B3, r4, xc, _, z3.sub, en4, q, fun cls d e s5 r5 H5 B5 z5 => hx cls d e s5 r5 H5 B5 (z1.s.trans (z4.trans z5)), fun s5 r5 H5 B5 z5 en5 q5 => ⟨B5, r5, z4.trans z5, en5, q5⟩, fun s5 r5 H5 B5 z5 => nx s5 r5 H5 B5 (z1.s.trans (z4.trans z5)), fun s5 r5 H5 B5 z5 en5 q5 => ⟨B5, r5, z4.trans z5, en5, q5⟩, fun v x H5 B5 z5 => rt v x H5 B5 (z1.s.trans (z4.trans z5))⟩
  · have e : i = items.length := by omega
    subst e
    exact .inl ⟨zz.2 rfl, nx s2 r2 H2 B2 (z1.s.trans z2) en2 (fin r2 inv)⟩
def dWhile (t : DT) (body : DS) : DS := fun xc E r => ∃ I : Nat → DEnv → Prop, (∃ m, I m r) ∧ ∀ m r, I m r → t xc r fun b => ifB b (body xc { E with nx := fun r => ∃ m', m' < m ∧ I m' r, ct := fun r => ∃ m', m' < m ∧ I m' r, bk := E.nx } r) (E.nx r)
/-! ### a local's own container -/
theorem own_at {K : PySem.W.Frag} {B H : Hp} {s : L2.St} {r : DEnv} {i : Nat} {c : Ct} (en : EnvRep K B H s r) (h : lk r i = some (.tmp c)) : ∃ p, s[i]? = some (some (.ref p)) ∧ B p = none ∧ RepC K B H p c := by
  obtain ⟨v, h1, p, rfl, n, w⟩ := en.at_ i _ h
  exact ⟨p, h1, n, w⟩
theorem own_write {K : PySem.W.Frag} {B H : Hp} {s : L2.St} {r : DEnv} {i : Nat} {c c' : Ct} {p : Addr} {o : HO} (k : Kp B H) (en : EnvRep K B H s r) (h : lk r i = some (.tmp c)) (hs : s[i]? = some (some (.ref p))) (n : B p = none) (w : RepC K B (upd H p o) p c') :
    EnvRep K B (upd H p o) s (st r i (some (.tmp c'))) ∧ StepS B H s r B (upd H p o) s (st r i (some (.tmp c'))) := by
  have hi : i < r.length := lk_lt h
  have ownp : Owns s r p := ⟨i, c, h, hs⟩
  refine ⟨⟨by rw [st_length, en.len], fun j x hj => ?_, fun j l c1 c2 a h1 h2 h3 h4 => ?_⟩, .refl B, k.upd n, fun a u ha nb nw => ?_⟩
  · by_cases z : i = j
    · subst z
      rw [lk_st_same hi] at hj
      cases hj
      exact ⟨.ref p, hs, p, rfl, n, w⟩
    · rw [lk_st_ne z] at hj
      obtain ⟨v, h1, h2⟩ := en.at_ j x hj
      refine ⟨v, h1, ?_⟩
      cases x with
      | dat d => exact h2
      | tmp c2 =>
        obtain ⟨q, rfl, n2, w2⟩ := h2
        have ne : q ≠ p := fun e => by
          subst e
          exact z (en.dis i j c c2 q h hj hs h1)
        exact ⟨q, rfl, n2, w2.move (.refl B) fun u hu => by rw [upd_ne ne]; exact hu⟩
  · have g : ∀ {j : Nat} {c1 : Ct}, lk (st r i (some (.tmp c'))) j = some (.tmp c1) → ∃ c3, lk r j = some (.tmp c3) := fun {j c1} hh => by
      by_cases z : i = j
      · subst z
        exact ⟨c, h⟩
      · rw [lk_st_ne z] at hh
        exact ⟨c1, hh⟩
    obtain ⟨c3, g1⟩ := g h1
    obtain ⟨c4, g2⟩ := g h2
    exact en.dis j l c3 c4 a g1 g2 h3 h4
  · have ne : a ≠ p := fun e => by
      subst e
      exact nw ownp
    rw [upd_ne ne]
    refine ⟨ha, nb, fun ow => ?_⟩
    obtain ⟨j, c1, h1, h2⟩ := ow
    by_cases z : i = j
    · subst z
      rw [hs] at h2
      cases h2
      exact ne rfl
    · rw [lk_st_ne z] at h1
      exact nw ⟨j, c1, h1, h2⟩
/-- x.append(e), x a local that owns its list -/
def dAppend (i : Nat) (de : DE) : DS := fun xc E r => match lk r i with
  | some (.tmp (.lst l)) => de xc r fun x => asD (fun d => l.length < sizeLine ∧ E.nx (st r i (some (.tmp (.lst (l ++ [d])))))) x
  | _ => False
theorem qs_append {i : Nat} {x : Str} {e : Expr} {de : DE} {p1 p2 p3 pos : Pos} (hx : PE X (.Name x p1) (tVar i)) (he : PE X e (L X.K W true de))
    (h : PE X (.Call (.Attribute (.Name x p1) "append" p2) [e] [] p3) (tBM X.K "list" rAppend (tVar i) (tCons (L X.K W true de) tNil)))
    (hs : swapsWith (.Call (.Attribute (.Name x p1) "append" p2) [e] [] p3) none pos.line X.env = pure false := by rfl) : PS X (.Expr (.Call (.Attribute (.Name x p1) "append" p2) [e] [] p3) pos) (LS X.K W (dAppend i de)) := by
  refine imS (ps_expr h hs) fun E s H ⟨B, r, xc, De, k, en, h, hx, nx, bk, ct, rt⟩ => ?_
  unfold dAppend at h
  split at h
  · rename_i l hl
    obtain ⟨p, hp, n, w⟩ := own_at en hl
    obtain ⟨vs, hv, rl⟩ := id w
    refine ⟨.ref p, hp, .inl ⟨rfl, vs, .inl (.inl hv)⟩, ?_⟩
    refine ⟨B, r, xc, _, k, en, h, fun cls d e H' B' z => hx cls d e s r H' B' z.s (en.step z), fun v x H1 B1 z rv fr q => ?_⟩
    cases x with
    | tmp c => exact q.elim
    | dat d =>
      obtain ⟨hlen, q⟩ := q
      have hv1 := z.out p _ hv n
      have rl1 := rl.mono z.kp
      obtain ⟨en2, z2⟩ := own_write (o := .lst (vs ++ [v])) (c' := .lst (l ++ [d])) z.sub (en.step z) hl hp hv1.2 ⟨_, upd_same, rl1.append (.cons rv .nil)⟩
      exact ⟨p, vs, v, rfl, rfl, hv1.1, by rw [rl1.length]; exact hlen, nx _ _ _ _ (z.s.trans z2) en2 q⟩
  · exact h.elim
/-- a local's own container becomes shared -/
def fz (r : DEnv) (i : Nat) : DEnv := match lk r i with
  | some (.tmp c) => st r i (some (.dat c.d))
  | _ => r
def dFz (i : Nat) (ds : DS) : DS := fun xc E r => (match lk r i with
  | some (.tmp c) => c.safe
  | _ => True) ∧ ds xc E (fz r i)
theorem qs_fz (i : Nat) {a : Stmt} {ds : DS} (h : PS X a (LS X.K W ds)) : PS X a (LS X.K W (dFz i ds)) := by
  refine imS h fun E s H ⟨B, r, xc, De, k, en, h, hx, nx, bk, ct, rt⟩ => ?_
  obtain ⟨hc, h⟩ := h
  unfold fz at h
  split at h
  · rename_i c hl
    rw [hl] at hc
    obtain ⟨p, hp, n, w⟩ := own_at en hl
    obtain ⟨o, ho⟩ := w.has
    have kp : Kp B (upd B p o) := .new n
    have sub : Kp (upd B p o) H := fun a u e => by
      by_cases z : a = p
      · subst z
        rw [upd_same] at e
        cases e
        exact ⟨fun _ => ho, fun d => ⟨_, ho, d⟩⟩
      · rw [upd_ne z] at e
        exact k a u e
    have rd : Rep X.K (upd B p o) (.ref p) c.d := by
      cases c with
      | lst ds =>
        obtain ⟨vs, h, r⟩ := w
        rw [ho] at h
        cases h
        exact .lst upd_same (r.mono kp)
      | dic ds =>
        obtain ⟨vs, h, r⟩ := id w
        have nd := safe_nd (K := X.K) (B := B) (H := H) (v := .ref p) (x := .tmp (.dic ds)) ⟨p, rfl, n, w⟩ hc ds rfl p vs rfl h
        rw [ho] at h
        cases h
        exact .dic upd_same nd (r.mono kp)
    have hi := lk_lt hl
    have en2 : EnvRep X.K (upd B p o) H s (st r i (some (.dat c.d))) := by
      refine ⟨by rw [st_length, en.len], fun j x hj => ?_, fun j l c1 c2 a h1 h2 h3 h4 => ?_⟩
      · by_cases z : i = j
        · subst z
          rw [lk_st_same hi] at hj
          cases hj
          exact ⟨.ref p, hp, rd⟩
        · rw [lk_st_ne z] at hj
          obtain ⟨v, h1, h2⟩ := en.at_ j x hj
          refine ⟨v, h1, ?_⟩
          cases x with
          | dat d => exact Rep.mono kp h2
          | tmp c2 =>
            obtain ⟨q, rfl, n2, w2⟩ := h2
            have ne : q ≠ p := fun e => by
              subst e
              exact z (en.dis i j c c2 q hl hj hp h1)
            exact ⟨q, rfl, by rw [upd_ne ne]; exact n2, w2.move kp fun u hu => hu⟩
      · have g : ∀ {j : Nat} {c1 : Ct}, lk (st r i (some (.dat c.d))) j = some (.tmp c1) → lk r j = some (.tmp c1) := fun {j c1} hh => by
          by_cases z : i = j
          · subst z
            rw [lk_st_same hi] at hh
            cases hh
          · rw [lk_st_ne z] at hh
            exact hh
        exact en.dis j l c1 c2 a (g h1) (g h2) h3 h4
    have z : StepS B H s r (upd B p o) H s (st r i (some (.dat c.d))) := ⟨kp, sub, fun a u ha nb w2 => by
      have ne : a ≠ p := fun e => by
        subst e
        exact w2 ⟨i, c, hl, hp⟩
      rw [upd_ne ne]
      refine ⟨ha, nb, fun ow => ?_⟩
      obtain ⟨j, c1, h1, h2⟩ := ow
      by_cases z : i = j
      · subst z
        rw [lk_st_same hi] at h1
        cases h1
      · rw [lk_st_ne z] at h1
        exact w2 ⟨j, c1, h1, h2⟩⟩
    exact ⟨upd B p o, _, xc, De, sub, en2, h, fun cls d e s2 r2 H2 B2 z2 => hx cls d e s2 r2 H2 B2 (z.trans z2), fun s2 r2 H2 B2 z2 => nx s2 r2 H2 B2 (z.trans z2), fun s2 r2 H2 B2 z2 => bk s2 r2 H2 B2 (z.trans z2), fun s2 r2 H2 B2 z2 => ct s2 r2 H2 B2 (z.trans z2), fun v x H2 B2 z2 => rt v x H2 B2 (z.trans z2)⟩
  · exact ⟨B, r, xc, De, k, en, h, hx, nx, bk, ct, rt⟩
end
/-! ### a def keeps its promise -/
def args (N : List Str) (ds : List D) : DEnv := ds.map (fun d => some (.dat d)) ++ List.replicate (N.length - ds.length) none
theorem args_own {N : List Str} {ds : List D} {i : Nat} {c : Ct} : lk (args N ds) i ≠ some (.tmp c) := by
  unfold args
  intro h
  have g : ∀ (l : List D) (m : List (Option Val)) (i : Nat), (∀ i, lk m i = none) → lk (l.map (fun d => some (.dat d)) ++ m) i ≠ some (.tmp c) := by
    intro l
    induction l with
    | nil => intro m i hm h; rw [List.map_nil, List.nil_append, hm] at h; cases h
    | cons d l ih =>
      intro m i hm h
      cases i with
      | zero => cases h
      | succ i => exact ih m i hm h
  refine g ds _ i (fun i => ?_) h
  generalize N.length - ds.length = n
  induction n generalizing i with
  | zero => rfl
  | succ n ih =>
    cases i with
    | zero => rfl
    | succ i => exact ih i
theorem lk_eq : ∀ (e : DEnv) (i : Nat), lk e i = (e[i]?).getD none
  | [], _ => rfl
  | _ :: _, 0 => rfl
  | _ :: r, i + 1 => by
    show lk r i = ((_ :: r)[i + 1]?).getD none
    rw [lk_eq r i, List.getElem?_cons_succ]
theorem args_rep {K : PySem.W.Frag} {B H : Hp} {N : List Str} {vs : List V} {ds : List D} (r : RepL K B vs ds) : EnvRep K B H (L2.start N vs) (args N ds) := by
  refine ⟨by unfold L2.start args; simp [r.length], fun i x h => ?_, fun i j c c' a h => absurd h args_own⟩
  rw [lk_eq] at h
  unfold args at h
  unfold L2.start
  by_cases hi : i < ds.length
  · rw [List.getElem?_append_left (by rw [List.length_map]; exact hi), List.getElem?_map] at h
    cases e : ds[i]? with
    | none => rw [e] at h; cases h
    | some d =>
      rw [e] at h
      cases h
      obtain ⟨v, hv, rv⟩ := r.get e
      refine ⟨v, ?_, rv⟩
      rw [List.getElem?_append_left (by rw [List.length_map, r.length]; exact hi), List.getElem?_map, hv]
      rfl
  · rw [List.getElem?_append_right (by rw [List.length_map]; omega), List.getElem?_replicate] at h
    split at h <;> cases h
section
variable {P : Program} {w : World} {K : PySem.W.Frag} {mg : Str → Option Value} {base : Heap}
theorem noOwn {N : List Str} {ds : List D} {vs : List V} {a : Addr} : ¬ Owns (L2.start N vs) (args N ds) a := fun ⟨_, _, h, _⟩ => args_own h
/-- a def that raises nothing -/
theorem fn_d {x qual : Str} {sm : Stmt} {f : Addr} {fd : FuncData} {N ps : List Str} {k : Nat} {sp : DSp} {body : DS} (F : Fun K x qual sm f fd) (S : FnScope N ps (defScope sm))
    (len : ∀ ds xc R, sp ds xc R → ds.length = ps.length)
    (hb : ∀ (cdv : Value) (A : Around) (outer : List Env) (s : Shared) (H : Hp), Room k (A.deeper (envOfC qual (defScope sm) s.heap.objs.size f cdv)) →
      PSs (cxOf CX0 P w K mg base N qual (defScope sm) f cdv A outer s H E0).nox (defBody sm) (LS K W0 body))
    (h : ∀ ds xc R, sp ds xc R → body X0 { nx := fun _ => R (.dat .non), rt := R } (args N ds)) : FnOk P w K mg base CX0 (k + 1) f fd ps (spD K sp) := by
  refine F.ok S (fun vs H Q E hq => ?_) (fun cdv A outer s H vs Q E hr hq => ?_)
  · obtain ⟨B, ds, xc, R, k, rl, hs, _⟩ := hq
    rw [rl.length]
    exact len ds xc R hs
  · obtain ⟨B, ds, xc, R, k, rl, hs, _, rt⟩ := hq
    refine ⟨_, hb cdv A outer s H hr, ?_⟩
    refine ⟨B, args N ds, X0, _, k, args_rep rl, h ds xc R hs, fun _ _ _ _ _ _ _ _ _ _ z => z.elim, fun s' r' H' B' z en q => ?_, fun _ _ _ _ _ _ z => z.elim, fun _ _ _ _ _ _ z => z.elim, fun v x H' B' z rv q => ?_⟩
    · exact rt .non (.dat .non) H' B' ⟨z.kp, z.sub, fun a o ha n => ⟨(z.out a o ha n noOwn).1, (z.out a o ha n noOwn).2.1⟩⟩ .non Fr.dat q
    · refine rt v x H' B' ⟨z.kp, z.sub, fun a o ha n => ⟨(z.out a o ha n noOwn).1, (z.out a o ha n noOwn).2.1⟩⟩ rv (fun p c e1 e2 => ?_) q
      subst e1 e2
      cases e : H p with
      | none => rfl
      | some o =>
        cases eb : B p with
        | none => exact absurd ⟨0, c, rfl, rfl⟩ (z.out p o e eb noOwn).2.2
        | some u =>
          obtain ⟨q2, h2, n2, _⟩ := rv
          cases h2
          obtain ⟨u2, h3⟩ := z.kp.some eb
          rw [n2] at h3
          cases h3
end
end Dl
/-! Dl4: subscripts, slices, calls of built-ins, methods of texts, displays of dicts. -/
namespace Dl
open PySem PySem.Spec PyProof.Rows L2
section
variable {X : Cx} {W : WX}
/-! ### subscripts -/
theorem atI_rep {K : PySem.W.Frag} {B : Hp} {vs : List V} {ds : List D} (r : RepL K B vs ds) {i : Int} {d : D} (h : atI ds i = some d) : ∃ v, atI vs i = some v ∧ Rep K B v d := by
  unfold atI at h ⊢
  rw [r.length]
  cases e : ixN ds.length i with
  | none => rw [e] at h; cases h
  | some j =>
    rw [e] at h
    exact r.get (i := j) h
/-- some a, of which P holds -/
def onO {α : Type} : Option α → (α → Prop) → Prop
  | some a, P => P a
  | none, _ => False
theorem onO_elim {α : Type} {o : Option α} {P : α → Prop} (h : onO o P) : ∃ a, o = some a ∧ P a := by
  cases o with
  | none => exact h.elim
  | some a => exact ⟨a, rfl, h⟩
theorem onO_of {α : Type} {o : Option α} {P : α → Prop} {a : α} (e : o = some a) (h : P a) : onO o P := by
  rw [e]
  exact h
def fIxD (P : Val → Prop) : D → D → Prop
  | .tup l, .int i => onO (atI l i) fun d => P (.dat d)
  | .lst l, .int i => onO (atI l i) fun d => P (.dat d)
  | .scr l, .int i => onO (atI l i) fun n => P (.dat (.int n))
  | .str z, .int i => z.length ≤ sizeLine ∧ onO (atI z.cps.toList i) fun c => P (.dat (.str ⟨#[c]⟩))
  | _, _ => False
def fIx : F2 := fun x y P => fIxD P x.d y.d
theorem atI_map {α β : Type} (g : α → β) (l : List α) (i : Int) : atI (l.map g) i = (atI l i).map g := by
  unfold atI
  rw [List.length_map]
  cases ixN l.length i with
  | none => rfl
  | some j => exact List.getElem?_map
theorem rel_ix {K : PySem.W.Frag} : RelR K (rIx K) fIx := by
  intro B H x y vx vy P Q k rx ry h a
  unfold fIx fIxD at h
  split at h
  · rename_i l i e1 e2
    obtain ⟨d, hd, h⟩ := onO_elim h
    obtain ⟨p, vs, rfl, hb, hp, rl⟩ := rv_tup k rx e1
    obtain ⟨v, hv, rv⟩ := atI_rep rl hd
    exact .inr (.inl ⟨p, vs, i, v, rfl, rv_int ry e2, hp, hv, a.dat k rv h⟩)
  · rename_i l i e1 e2
    obtain ⟨d, hd, h⟩ := onO_elim h
    obtain ⟨p, vs, rfl, hp, rl⟩ := rv_lst k rx e1
    obtain ⟨v, hv, rv⟩ := atI_rep rl hd
    exact .inl ⟨p, vs, i, v, rfl, rv_int ry e2, .inl (.inl hp), hv, a.dat k rv h⟩
  · rename_i l i e1 e2
    obtain ⟨n, hn, h⟩ := onO_elim h
    obtain ⟨p, rfl, hp⟩ := rv_scr k rx e1
    exact .inl ⟨p, _, i, .int n, rfl, rv_int ry e2, hp, by rw [atI_map, hn]; rfl, a.dat k (.int n) h⟩
  · rename_i z i e1 e2
    obtain ⟨hz, h⟩ := h
    obtain ⟨c, hc, h⟩ := onO_elim h
    exact .inr (.inr ⟨z, i, c, rv_str rx e1, rv_int ry e2, hz, hc, a.dat k (.str _) h⟩)
  · exact h.elim
theorem q_sub1 {a b : Expr} {pos : Pos} {da db : DE} {fa fb : Bool} (ha : PE X a (L X.K W fa da)) (hb : PE X b (L X.K W fb db)) (hs : PlainIx b := by exact fun _ _ => rfl) : PE X (.Subscript a b pos) (L X.K W true (dOp fIx da db)) := q_ix ix_seq rel_ix ha hb hs
/-! ### slices -/
abbrev DO := DX → DEnv → (Option Int → Prop) → Prop
def LO (K : PySem.W.Frag) (W : WX) (dt : DO) : TO := fun s H Q => ∃ B r xc P, Kp B H ∧ EnvRep K B H s r ∧ dt xc r P ∧
  (∀ cls d e H' B', Step B H B' H' → ExcRep H' cls d e → xc e r → W cls d s H') ∧
  ∀ b H' B', Step B H B' H' → P b → Q b H'
def dNo : DO := fun _ _ P => P none
def asI (P : Int → Prop) : D → Prop
  | .int i => P i
  | _ => False
theorem asI_elim {P : Int → Prop} {d : D} (h : asI P d) : ∃ b, d = .int b ∧ P b := by
  cases d <;> first | exact ⟨_, rfl, h⟩ | exact h.elim
def asS (P : Str → Prop) : D → Prop
  | .str i => P i
  | _ => False
theorem asS_elim {P : Str → Prop} {d : D} (h : asS P d) : ∃ b, d = .str b ∧ P b := by
  cases d <;> first | exact ⟨_, rfl, h⟩ | exact h.elim
def dPart (de : DE) : DO := fun xc r P => de xc r fun x => asI (fun i => P (some i)) x.d
theorem imO {e : Option Expr} {t u : TO} (h : PO X e t) (f : ∀ s H Q, u s H Q → t s H Q) : PO X e u := ⟨fun pins s r H Q I q => h.run pins s r H Q I (f _ _ _ q)⟩
theorem qo_none : PO X none (LO X.K W dNo) := imO po_none fun s H Q ⟨B, r, xc, P, k, en, h, hx, hq⟩ => hq none H B (.refl k) h
theorem qo_some {e : Expr} {de : DE} {f : Bool} (h : PE X e (L X.K W f de)) : PO X (some e) (LO X.K W (dPart de)) := by
  refine imO (po_some h) fun s H Q ⟨B, r, xc, P, k, en, h, hx, hq⟩ => ⟨B, r, xc, _, k, en, h, hx, fun v x H1 B1 z rv _ q => ?_⟩
  obtain ⟨i, e, q⟩ := asI_elim q
  exact ⟨i, rv_int rv e, hq _ H1 B1 z q⟩
def cutD (l : List D) (lo hi : Option Int) : List D := (l.drop (HT.sIx l.length 0 lo)).take (HT.sIx l.length l.length hi - HT.sIx l.length 0 lo)
theorem cut_rep {K : PySem.W.Frag} {B : Hp} {vs : List V} {ds : List D} (r : RepL K B vs ds) (lo hi : Option Int) : RepL K B (cutV vs lo hi) (cutD ds lo hi) := by
  unfold cutV cutD
  rw [r.length]
  exact (r.drop _).take _
def rSlU (K : PySem.W.Frag) : V → Option Int → Option Int → Hp → VK → Prop := fun x lo hi H Q => rSlL K x lo hi H Q ∨ (rSlA K x lo hi H Q ∨ rSlS x lo hi H Q)
theorem sl_u : SlR X (rSlU X.K) := by
  intro pins s t H x v vl vu lo hi sl Q I rx hs pl pu h
  rcases h with h | h | h
  · exact sl_list pins s t H x v vl vu lo hi sl Q I rx hs pl pu h
  · exact sl_tupA pins s t H x v vl vu lo hi sl Q I rx hs pl pu h
  · exact sl_str pins s t H x v vl vu lo hi sl Q I rx hs pl pu h
def fSlD (lo hi : Option Int) (P : Val → Prop) : D → Prop
  | .lst l => P (.tmp (.lst (cutD l lo hi)))
  | .tup l => P (.dat (.tup (cutD l lo hi)))
  | .str z => z.length ≤ sizeLine ∧ P (.dat (.str (cutS z lo hi)))
  | _ => False
def fSl (x : Val) (lo hi : Option Int) (P : Val → Prop) : Prop := fSlD lo hi P x.d
def dSl (de : DE) (dl dh : DO) : DE := fun xc r P => de xc r fun x => dl xc r fun lo => dh xc r fun hi => fSl x lo hi P
theorem q_slice {e : Expr} {lo hi : Option Expr} {p2 pos : Pos} {de : DE} {dl dh : DO} {f : Bool} (he : PE X e (L X.K W f de)) (hl : PO X lo (LO X.K W dl)) (hh : PO X hi (LO X.K W dh)) : PE X (.Subscript e (.Slice lo hi none p2) pos) (L X.K W true (dSl de dl dh)) := by
  refine imE (pe_slice sl_u he hl hh) fun s H Q ⟨B, r, xc, P, k, en, h, hx, hq⟩ => ⟨B, r, xc, _, k, en, h, hx, fun x vx H1 B1 z1 rx _ q1 => ?_⟩
  refine ⟨B1, r, xc, _, z1.sub, en.step z1, q1, fun cls d e H' B' st => hx cls d e H' B' (z1.trans st), fun l H2 B2 z2 q2 => ?_⟩
  have z12 := z1.trans z2
  refine ⟨B2, r, xc, _, z2.sub, en.step z12, q2, fun cls d e H' B' st => hx cls d e H' B' (z12.trans st), fun u H3 B3 z3 q3 => ?_⟩
  have z := z12.trans z3
  have rx3 := (rx.step z2).step z3
  unfold fSl fSlD at q3
  split at q3
  · rename_i es e1
    obtain ⟨p, vs, rfl, hp, rl⟩ := rv_lst z3.sub rx3 e1
    exact .inl ⟨p, vs, rfl, .inl (.inl hp), fun q n => hq _ (.tmp (.lst (cutD es l u))) _ B3 (z.trans (.tmp z3.sub n)) ⟨q, rfl, z3.sub.none n, _, upd_same, cut_rep rl l u⟩ (fun _ p c e _ => by cases e; exact z.free n) q3⟩
  · rename_i es e1
    obtain ⟨p, vs, rfl, hb, hp, rl⟩ := rv_tup z3.sub rx3 e1
    have len := rl.length
    refine .inr (.inl ⟨p, vs, rfl, hp, fun w => ?_, fun w q n => ?_⟩)
    · have ec : cutD es l u = es := by
        unfold cutD
        rw [← len, w.1, w.2, List.drop_zero, Nat.sub_zero, len, List.take_length]
      rw [ec] at q3
      exact hq _ (.dat (.tup es)) H3 B3 z (.tup hb rl) (fun _ => Fr.dat) q3
    · exact hq _ (.dat (.tup (cutD es l u))) _ _ (z.trans (.new z3.sub n)) (.tup (.inl (.inl upd_same)) ((cut_rep rl l u).mono (Kp.new (z3.sub.none n)))) (fun _ => Fr.dat) q3
  · rename_i y e1
    exact .inr (.inr ⟨y, rv_str rx3 e1, q3.1, hq _ (.dat (.str _)) H3 B3 z (.str _) (fun _ => Fr.dat) q3.2⟩)
  · exact q3.elim
/-- y[::-1] of a text -/
def revS (z : Str) : Str := ⟨z.cps.toList.reverse.toArray⟩
theorem revS_length (z : Str) : (revS z).length = z.length := by
  show z.cps.toList.reverse.toArray.size = z.cps.size
  rw [List.size_toArray, List.length_reverse, Array.length_toList]
def dRevS (de : DE) : DE := fun xc r P => de xc r fun x => asS (fun z => z.length ≤ sizeLine ∧ P (.dat (.str (revS z)))) x.d
theorem rev_made (z : Str) : (⟨((Builtin.Str.strSliceIndices none none (-1) z.length).filterMap (z.cps[·]?)).toArray⟩ : Str) = revS z := by
  have h := PyProof.Rows.picked_rev z.length
  rw [h]
  refine congrArg Str.mk (congrArg List.toArray ?_)
  rw [PyProof.Rows.filterMap_get, List.map_map]
  · refine List.ext_getElem? fun i => ?_
    rw [List.getElem?_map]
    by_cases hi : i < z.length
    · have hs : z.cps.toList.length = z.length := Array.length_toList
      rw [List.getElem?_range hi, List.getElem?_reverse (by rw [hs]; exact hi), hs]
      have h2 : z.length - 1 - i < z.cps.size := by have : z.cps.size = z.length := rfl; omega
      rw [Array.getElem?_toList, Array.getElem?_eq_getElem h2]
      show some (z.cps.getD (z.length - 1 - i) 0) = _
      rw [Array.getD, dif_pos h2]
      rfl
    · rw [List.getElem?_eq_none (by rw [List.length_range]; omega), List.getElem?_eq_none (by rw [List.length_reverse, Array.length_toList]; have : z.cps.size = z.length := rfl; omega)]
      rfl
  · intro i hi
    obtain ⟨k, hk, rfl⟩ := List.mem_map.mp hi
    have hk' : k < z.length := List.mem_range.mp hk
    show z.length - 1 - k < z.cps.size
    have : z.cps.size = z.length := rfl
    omega
theorem q_revS {e : Expr} {k0 : Nat} {p1 p2 p3 pos : Pos} {de : DE} {f : Bool} (he : PE X e (L X.K W f de)) : PE X (.Subscript e (.Slice none none (some (.UnaryOp .USub (.Constant (.int 1) k0 p1) p2)) p3) pos) (L X.K W true (dRevS de)) := by
  have main : PE X (.Subscript e (.Slice none none (some (.UnaryOp .USub (.Constant (.int 1) k0 p1) p2)) p3) pos) (fun s H Q => L X.K W f de s H fun x H1 => ∃ z, x = .str z ∧ z.length ≤ sizeLine ∧ Q (.str (revS z)) H1) := by
    refine ⟨fun pins s t H Q I h => ?_⟩
    refine Subscript_ (thn (he.run pins s t H _ I h) fun v s1 ⟨x, H1, I1, r1, z, ex, hz, q⟩ => ?_)
    subst ex
    obtain ⟨tk, rfl⟩ := r1
    have hst : PO X (some (.UnaryOp .USub (.Constant (.int 1) k0 p1) p2)) (tPart (tUn (rU fun i => .int (-i)) (tC (.int 1)))) := po_some (pe_un un_neg pe_int)
    refine wpAny_Slice (thn (po_none.run pins s1 t H1 (fun o H2 => o = none ∧ H2 = H1) I1 ⟨rfl, rfl⟩) fun vl s2 ⟨l, H2, I2, pl, el, e2⟩ => ?_)
    subst el e2
    refine thn (po_none.run pins s2 t H2 (fun o H3 => o = none ∧ H3 = H2) I2 ⟨rfl, rfl⟩) fun vu s3 ⟨u, H3, I3, pu, eu, e3⟩ => ?_
    subst eu e3
    refine thn (hst.run pins s3 t H3 (fun o H4 => o = some (-1) ∧ H4 = H3) I3 ⟨1, rfl, -1, rfl, rfl, rfl⟩) fun vs s4 ⟨o, H4, I4, ps, eo, e4⟩ => ?_
    subst eo e4
    have I5 : Inv X pins t H4 { s4 with heap := s4.heap.push { cls := .type "slice", data := .fields #[vl, vu, vs] } } := I4.kept (t' := s4.toks) fun b ob q => Heap.get?_push_of_some _ q
    show wpAny (model X.prog X.w) X.A (subscriptTail e (.Slice none none (some (.UnaryOp .USub (.Constant (.int 1) k0 p1) p2)) p3) (.str z tk) (.ref s4.heap.objs.size)) (EP X pins t Q) X.xe { s4 with heap := s4.heap.push { cls := .type "slice", data := .fields #[vl, vu, vs] } }
    refine tail_any (ops := [.ref s4.heap.objs.size, .str z tk]) (typeIs_str _ _ _) (F.slot_str_getitem.lookup) ?_ (by with_unfolding_all rfl)
    obtain ⟨l, rfl, e1⟩ := IsPart.raw pl
    obtain ⟨u, rfl, e2⟩ := IsPart.raw pu
    obtain ⟨w, rfl, e3⟩ := IsPart.raw ps
    cases l with
    | some _ => cases e1
    | none =>
      cases u with
      | some _ => cases e2
      | none =>
        cases w with
        | none => cases e3
        | some w =>
          obtain ⟨wi, wt⟩ := w
          cases (show some wi = some (-1) from e3)
          refine wpAny_getItem_str_slice (l := none) (u := none) (st := some (-1, wt)) ⟨_, Heap.get?_push_size _ rfl, rfl, rfl⟩ rfl ?_
          show Made.post (if (((-1 : Int) == 1) && ((Builtin.Str.strSliceIndices none none (-1) z.length).length == z.length)) = true then Made.val (.str z tk)
            else Made.str ⟨((Builtin.Str.strSliceIndices none none (-1) z.length).filterMap (z.cps[·]?)).toArray⟩) (EP X pins t Q) _
          rw [if_neg (by show ¬ ((false && _) = true); rw [Bool.false_and]; exact Bool.false_ne_true), rev_made]
          exact ⟨by rw [revS_length]; exact hz, .str (revS z), H4, I5.tok _, ⟨_, rfl⟩, q⟩
  refine imE main fun s H Q ⟨B, r, xc, P, k, en, h, hx, hq⟩ => ⟨B, r, xc, _, k, en, h, hx, fun x vx H1 B1 z rx _ q => ?_⟩
  obtain ⟨y, e, q⟩ := asS_elim q
  exact ⟨y, rv_str rx e, q.1, hq _ (.dat (.str _)) H1 B1 z (.str _) (fun _ => Fr.dat) q.2⟩
/-! ### calls of built-ins -/
/-- what a built-in of one, of two arguments asks -/
def RelC1 (K : PySem.W.Frag) (r : List V → Hp → VK → Prop) (f : F1) : Prop := RelU K (fun x H Q => r [x] H Q) f
def RelC2 (K : PySem.W.Frag) (r : List V → Hp → VK → Prop) (f : F2) : Prop := RelR K (fun x y H Q => r [x, y] H Q) f
section
variable {x : Str} {p pos : Pos} {a b : Expr} {da db : DE} {fa fb : Bool} {id T : String} {r : List V → Hp → VK → Prop}
theorem q_b1 {f : F1} (hr : RelC1 X.K r f) (hc : CallR X (.builtin id) r) (hg : Gl X x) (hm : X.mg x = none) (hv : bootBuiltins x = some (.builtin id)) (ha : PE X a (L X.K W fa da)) (hn : x ≠ "__name__" := by decide) (hdb : (x == ("__debug__" : Str)) = false := by decide)
    (he : starEach [a] X.env = (false, eval a X.env) :: starEach [] X.env := by rfl) (hpl : (backTo pos (starEach [] X.env)).any (·.1) = false := by rfl) : PE X (.Call (.Name x p) [a] [] pos) (L X.K W true (dUn f da)) :=
  imE (pe_callB hc hg hm hv (pa_cons ha pa_nil he) hn hdb he hpl) (l_un hr)
theorem q_t1 {f : F1} (hr : RelC1 X.K r f) (hc : CallR X (.type T) r) (hg : Gl X x) (hm : X.mg x = none) (hv : bootBuiltins x = some (.type T)) (ha : PE X a (L X.K W fa da)) (hn : x ≠ "__name__" := by decide) (hdb : (x == ("__debug__" : Str)) = false := by decide)
    (he : starEach [a] X.env = (false, eval a X.env) :: starEach [] X.env := by rfl) (hpl : (backTo pos (starEach [] X.env)).any (·.1) = false := by rfl) : PE X (.Call (.Name x p) [a] [] pos) (L X.K W true (dUn f da)) :=
  imE (pe_callTy hc hg hm hv (pa_cons ha pa_nil he) hn hdb he hpl) (l_un hr)
theorem q_b2 {f : F2} (hr : RelC2 X.K r f) (hc : CallR X (.builtin id) r) (hg : Gl X x) (hm : X.mg x = none) (hv : bootBuiltins x = some (.builtin id)) (ha : PE X a (L X.K W fa da)) (hb : PE X b (L X.K W fb db)) (hn : x ≠ "__name__" := by decide) (hdb : (x == ("__debug__" : Str)) = false := by decide)
    (he : starEach [a, b] X.env = (false, eval a X.env) :: starEach [b] X.env := by rfl) (he2 : starEach [b] X.env = (false, eval b X.env) :: starEach [] X.env := by rfl) (hpl : (backTo pos (starEach [b] X.env)).any (·.1) = false := by rfl) : PE X (.Call (.Name x p) [a, b] [] pos) (L X.K W true (dOp f da db)) :=
  imE (pe_callB hc hg hm hv (pa_cons ha (pa_cons hb pa_nil he2) he) hn hdb he hpl) (l_op hr)
end
/-- len -/
def fLenD (P : Val → Prop) : D → Prop
  | .str z => z.length ≤ sizeLine ∧ P (.dat (.int z.length))
  | .tup l => P (.dat (.int l.length))
  | .lst l => P (.dat (.int l.length))
  | .scr l => P (.dat (.int l.length))
  | _ => False
def fLen : F1 := fun x P => fLenD P x.d
theorem rel_len : RelC1 X.K (fun xs H Q => ∃ x n, xs = [x] ∧ LenV X.K x H n ∧ Q (.int n) H) fLen := by
  intro B H x vx P Q k rx h a
  unfold fLen fLenD at h
  split at h
  · rename_i z e
    rw [rv_str rx e]
    exact ⟨_, _, rfl, ⟨h.1, rfl⟩, a.dat k (.int _) h.2⟩
  · rename_i l e
    obtain ⟨p, vs, rfl, _, hp, rl⟩ := rv_tup k rx e
    exact ⟨_, _, rfl, .inr ⟨vs, hp, rfl⟩, by rw [rl.length]; exact a.dat k (.int _) h⟩
  · rename_i l e
    obtain ⟨p, vs, rfl, hp, rl⟩ := rv_lst k rx e
    exact ⟨_, _, rfl, .inl ⟨vs, .inl (.inl hp), rfl⟩, by rw [rl.length]; exact a.dat k (.int _) h⟩
  · rename_i l e
    obtain ⟨p, rfl, hp⟩ := rv_scr k rx e
    exact ⟨_, _, rfl, .inl ⟨_, hp, rfl⟩, by rw [List.length_map]; exact a.dat k (.int _) h⟩
  · exact h.elim
def fAbsD (P : Val → Prop) : D → Prop
  | .int i => P (.dat (.int (if i < 0 then -i else i)))
  | _ => False
def fAbs : F1 := fun x P => fAbsD P x.d
theorem rel_abs {K : PySem.W.Frag} : RelC1 K (fun xs H Q => ∃ i, xs = [.int i] ∧ Q (.int (if i < 0 then -i else i)) H) fAbs := by
  intro B H x vx P Q k rx h a
  unfold fAbs fAbsD at h
  split at h
  · rename_i i e
    rw [rv_int rx e]
    exact ⟨i, rfl, a.dat k (.int _) h⟩
  · exact h.elim
def fIntD (P : Val → Prop) : D → Prop
  | .int i => P (.dat (.int i))
  | .bl b => P (.dat (.int (if b then 1 else 0)))
  | _ => False
def fInt : F1 := fun x P => fIntD P x.d
theorem rel_int {K : PySem.W.Frag} : RelC1 K (fun xs H Q => (∃ i, xs = [.int i] ∧ Q (.int i) H) ∨ ∃ k, xs = [.bl k] ∧ Q (.int (if k then 1 else 0)) H) fInt := by
  intro B H x vx P Q k rx h a
  unfold fInt fIntD at h
  split at h
  · rename_i i e
    rw [rv_int rx e]
    exact .inl ⟨i, rfl, a.dat k (.int _) h⟩
  · rename_i i e
    rw [rv_bl rx e]
    exact .inr ⟨i, rfl, a.dat k (.int _) h⟩
  · exact h.elim
def fMax : F2 := fI0 fun i j => .int (if j > i then j else i)
def fMin : F2 := fI0 fun i j => .int (if j < i then j else i)
theorem rel_max {K : PySem.W.Frag} : RelC2 K (fun xs H Q => ∃ i j, xs = [.int i, .int j] ∧ Q (.int (if j > i then j else i)) H) fMax := by
  intro B H x y vx vy P Q k rx ry h a
  unfold fMax fI0 fI0D at h
  split at h
  · rename_i i j e1 e2
    rw [rv_int rx e1, rv_int ry e2]
    exact ⟨i, j, rfl, a.dat k (.int _) h⟩
  · exact h.elim
theorem rel_min {K : PySem.W.Frag} : RelC2 K (fun xs H Q => ∃ i j, xs = [.int i, .int j] ∧ Q (.int (if j < i then j else i)) H) fMin := by
  intro B H x y vx vy P Q k rx ry h a
  unfold fMin fI0 fI0D at h
  split at h
  · rename_i i j e1 e2
    rw [rv_int rx e1, rv_int ry e2]
    exact ⟨i, j, rfl, a.dat k (.int _) h⟩
  · exact h.elim
/-- list(x), tuple(x) -/
def fListD (P : Val → Prop) : D → Prop
  | .lst l => P (.tmp (.lst l))
  | .tup l => P (.tmp (.lst l))
  | .scr l => P (.tmp (.lst (l.map D.int)))
  | _ => False
def fList : F1 := fun x P => fListD P x.d
theorem rel_list : RelC1 X.K (fun xs H Q => ∃ p ys, xs = [.ref p] ∧ (SqL X.K H p ys ∨ SqT X.K H p ys) ∧ ∀ l, H l = none → Q (.ref l) (upd H l (.lst ys))) fList := by
  intro B H x vx P Q k rx h a
  unfold fList fListD at h
  split at h
  · rename_i l e
    obtain ⟨p, vs, rfl, hp, rl⟩ := rv_lst k rx e
    exact ⟨p, vs, rfl, .inl (.inl (.inl hp)), fun q n => a.newL k rl h n⟩
  · rename_i l e
    obtain ⟨p, vs, rfl, _, hp, rl⟩ := rv_tup k rx e
    exact ⟨p, vs, rfl, .inr hp, fun q n => a.newL k rl h n⟩
  · rename_i l e
    obtain ⟨p, rfl, hp⟩ := rv_scr k rx e
    exact ⟨p, _, rfl, .inl hp, fun q n => a.newL k (RepL.ints l) h n⟩
  · exact h.elim
def fTupleD (P : Val → Prop) : D → Prop
  | .lst l => P (.dat (.tup l))
  | .tup l => P (.dat (.tup l))
  | .scr l => P (.dat (.tup (l.map D.int)))
  | _ => False
def fTuple : F1 := fun x P => fTupleD P x.d
theorem rel_tuple : RelC1 X.K (fun xs H Q => ∃ p ys, xs = [.ref p] ∧ ((SqL X.K H p ys ∧ ∀ l, H l = none → Q (.ref l) (upd H l (.tup ys))) ∨ (SqT X.K H p ys ∧ Q (.ref p) H))) fTuple := by
  intro B H x vx P Q k rx h a
  unfold fTuple fTupleD at h
  split at h
  · rename_i l e
    obtain ⟨p, vs, rfl, hp, rl⟩ := rv_lst k rx e
    exact ⟨p, vs, rfl, .inl ⟨.inl (.inl hp), fun q n => a.newT k rl h n⟩⟩
  · rename_i l e
    obtain ⟨p, vs, rfl, hb, hp, rl⟩ := rv_tup k rx e
    exact ⟨p, vs, rfl, .inr ⟨hp, a.dat k (.tup hb rl) h⟩⟩
  · rename_i l e
    obtain ⟨p, rfl, hp⟩ := rv_scr k rx e
    exact ⟨p, _, rfl, .inl ⟨hp, fun q n => a.newT k (RepL.ints l) h n⟩⟩
  · exact h.elim
/-- all, any of a list of truths -/
def blsOf : List D → Option (List Bool)
  | [] => some []
  | .bl b :: r => (blsOf r).map (b :: ·)
  | _ => none
theorem bls_rep {K : PySem.W.Frag} {B : Hp} : ∀ {vs : List V} {ds : List D} {bs : List Bool}, RepL K B vs ds → blsOf ds = some bs → vs = bs.map V.bl
  | _, _, _, .nil, e => by
    have := Option.some.inj e
    subst this
    rfl
  | _, _, bs, .cons h r, e => by
    cases h with
    | bl b =>
      unfold blsOf at e
      cases q : blsOf _ with
      | none => rw [q] at e; cases e
      | some cs =>
        rw [q] at e
        have := Option.some.inj e
        subst this
        rw [bls_rep r q]
        rfl
    | _ => cases e
theorem blsOf_map {α : Type} (f : α → Bool) : ∀ l : List α, blsOf (l.map fun a => D.bl (f a)) = some (l.map f)
  | [] => rfl
  | a :: r => by
    show (blsOf (r.map fun a => D.bl (f a))).map (f a :: ·) = _
    rw [blsOf_map f r]
    rfl
def fAllD (P : Val → Prop) : D → Prop
  | .lst l => onO (blsOf l) fun bs => P (.dat (.bl (bs.all id)))
  | _ => False
def fAll : F1 := fun x P => fAllD P x.d
def fAnyD (P : Val → Prop) : D → Prop
  | .lst l => onO (blsOf l) fun bs => P (.dat (.bl (bs.any id)))
  | _ => False
def fAny : F1 := fun x P => fAnyD P x.d
theorem rel_all : RelC1 X.K (rAll X.K) fAll := by
  intro B H x vx P Q k rx h a
  unfold fAll fAllD at h
  split at h
  · rename_i l e
    obtain ⟨bs, hb, h⟩ := onO_elim h
    obtain ⟨p, vs, rfl, hp, rl⟩ := rv_lst k rx e
    have ev := bls_rep rl hb
    subst ev
    exact ⟨p, bs, rfl, .inl (.inl hp), a.dat k (.bl _) h⟩
  · exact h.elim
theorem rel_any : RelC1 X.K (rAny X.K) fAny := by
  intro B H x vx P Q k rx h a
  unfold fAny fAnyD at h
  split at h
  · rename_i l e
    obtain ⟨bs, hb, h⟩ := onO_elim h
    obtain ⟨p, vs, rfl, hp, rl⟩ := rv_lst k rx e
    have ev := bls_rep rl hb
    subst ev
    exact ⟨p, bs, rfl, .inl (.inl hp), a.dat k (.bl _) h⟩
  · exact h.elim
/-- isinstance(x, T) -/
inductive Ty6 where
  | str | int | bool | tuple | list | dict
def Ty6.name : Ty6 → String
  | .str => "str" | .int => "int" | .bool => "bool" | .tuple => "tuple" | .list => "list" | .dict => "dict"
def D.isi : Ty6 → D → Bool
  | .str, .str _ => true
  | .int, .int _ => true
  | .int, .bl _ => true
  | .bool, .bl _ => true
  | .tuple, .tup _ => true
  | .list, .lst _ => true
  | .list, .scr _ => true
  | .dict, .dic _ => true
  | .dict, .draw => true
  | _, _ => false
/-- data of which isinstance may be asked -/
def D.plain : D → Bool
  | .ty _ => false
  | .scr _ => false
  | .obj _ => false
  | _ => true
def fIsi (t : Ty6) : F1 := fun x P => x.d.plain = true ∧ P (.dat (.bl (x.d.isi t)))
theorem kit_all (t : Ty6) : kitB "NoneType" t.name = some false ∧ kitB "bool" t.name = some (D.isi t (.bl true)) ∧ kitB "int" t.name = some (D.isi t (.int 0)) ∧ kitB "str" t.name = some (D.isi t (.str ⟨#[]⟩)) ∧ kitB "tuple" t.name = some (D.isi t (.tup [])) ∧
    kitB "list" t.name = some (D.isi t (.lst [])) ∧ kitB "dict" t.name = some (D.isi t (.dic [])) := by
  cases t <;> exact ⟨by decide +kernel, by decide +kernel, by decide +kernel, by decide +kernel, by decide +kernel, by decide +kernel, by decide +kernel⟩
theorem kit_rep {K : PySem.W.Frag} {B H : Hp} {v : V} {x : Val} (k : Kp B H) (r : RepV K B H v x) (o : x.d.plain = true) (tk : ∀ a vs, v = .ref a → SqT K H a vs → TyX K H v (.type "tuple")) (t : Ty6) :
    ∃ n : String, TyX K H v (.type n) ∧ kitB n t.name = some (x.d.isi t) := by
  obtain ⟨k0, k1, k2, k3, k4, k5, k6⟩ := kit_all t
  cases x with
  | tmp c =>
    obtain ⟨p, rfl, n, w⟩ := r
    cases c with
    | lst ds =>
      obtain ⟨vs, h, _⟩ := w
      exact ⟨"list", .base (.lst h), by rw [k5]; cases t <;> rfl⟩
    | dic ds =>
      obtain ⟨vs, h, _⟩ := w
      exact ⟨"dict", .base (.dK h), by rw [k6]; cases t <;> rfl⟩
  | dat d =>
    cases r with
    | non => exact ⟨"NoneType", .base .non, by rw [k0]; cases t <;> rfl⟩
    | bl b => exact ⟨"bool", .base (.bl b), by rw [k1]; cases t <;> rfl⟩
    | int i => exact ⟨"int", .base (.int i), by rw [k2]; cases t <;> rfl⟩
    | str x => exact ⟨"str", .base (.str x), by rw [k3]; cases t <;> rfl⟩
    | ty n => cases o
    | scr h => cases o
    | obj a => cases o
    | tup h r => exact ⟨"tuple", tk _ _ rfl (kp_t k h), by rw [k4]; cases t <;> rfl⟩
    | lst h r => exact ⟨"list", .base (.lst ((k _ _ h).1 DrawO.lst)), by rw [k5]; cases t <;> rfl⟩
    | dic h n r => exact ⟨"dict", .base (.dK ((k _ _ h).1 n)), by rw [k6]; cases t <;> rfl⟩
    | draw h d =>
      obtain ⟨u, hu, _, _, _, rfl, _⟩ := (k _ _ h).2 d
      exact ⟨"dict", .base (.dK hu), by rw [k6]; cases t <;> rfl⟩
theorem tup_ty {K : PySem.W.Frag} {H : Hp} : ∀ a vs, SqT K H a vs → TyX K H (.ref a) (.type "tuple") := fun a vs h => by
  rcases h with (h | ⟨o, h⟩) | ⟨o, its, n, h1, h2, _⟩
  · exact .base (.tup h)
  · exact .fTuple h
  · exact .kTuple h1 h2
theorem q_isi (t : Ty6) {p p2 pos : Pos} {a : Expr} {y : Str} {da : DE} {fa : Bool} (hg : Gl X "isinstance") (hm : X.mg "isinstance" = none) (hg2 : Gl X y) (hm2 : X.mg y = none) (hv2 : bootBuiltins y = some (.type t.name)) (ha : PE X a (L X.K W fa da)) (hn : y ≠ "__name__" := by decide) (hd : (y == ("__debug__" : Str)) = false := by decide)
    (he : starEach [a, .Name y p2] X.env = (false, eval a X.env) :: starEach [.Name y p2] X.env := by rfl) (he2 : starEach [.Name y p2] X.env = (false, eval (.Name y p2) X.env) :: starEach [] X.env := by rfl) (hpl : (backTo pos (starEach [.Name y p2] X.env)).any (·.1) = false := by rfl) :
    PE X (.Call (.Name "isinstance" p) [a, .Name y p2] [] pos) (L X.K W true (dUn (fIsi t) da)) := by
  refine imE (pe_callB call_isi hg hm (by decide +kernel) (pa_cons ha (pa_cons (pe_bltn (v := .ty t.name) hg2 hm2 hv2 rfl hn hd) pa_nil he2) he) (by decide) (by decide) he hpl) fun s H Q ⟨B, r, xc, P, k, en, h, hx, hq⟩ => ⟨B, r, xc, _, k, en, h, hx, fun x vx H1 B1 z rx _ q => ?_⟩
  obtain ⟨o, q⟩ := q
  obtain ⟨n, ty, e⟩ := kit_rep z.sub rx o (fun a vs e h => by subst e; exact tup_ty a vs h) t
  exact ⟨x, .ty t.name, .type n, .type t.name, _, rfl, .ty _, ty, kit_ty e, hq _ (.dat (.bl _)) H1 B1 z (.bl _) (fun _ => Fr.dat) q⟩
/-! ### methods of texts -/
def RelM (K : PySem.W.Frag) (r : V → List V → Hp → VK → Prop) (f : F2) : Prop := RelR K (fun x y H Q => r x [y] H Q) f
/-- a method of a text with one argument -/
def dM1 (f : F2) (da db : DE) : DE := fun xc r P => da xc r fun x => asS (fun _ => db xc r fun y => f x y P) x.d
theorem l_m1 {rr : V → List V → Hp → VK → Prop} {f : F2} {da db : DE} {fa fb : Bool} (hr : RelM X.K rr f) (s : L2.St) (H : Hp) (Q : VK) (h : L X.K W true (dM1 f da db) s H Q) : tM1 rr (L X.K W fa da) (L X.K W fb db) s H Q := by
  obtain ⟨B, r, xc, P, k, en, h, hx, hq⟩ := h
  refine ⟨B, r, xc, _, k, en, h, hx, fun x vx H1 B1 s1 rx _ h1 => ?_⟩
  obtain ⟨z, e, h1⟩ := asS_elim h1
  · refine ⟨⟨z, rv_str rx e⟩, B1, r, xc, _, s1.sub, en.step s1, h1, fun cls d e H' B' st => hx cls d e H' B' (s1.trans st), fun y vy H2 B2 s2 ry _ h2 => ?_⟩
    exact hr B2 H2 x y vx vy P Q s2.sub (rx.step s2) ry h2 fun v z H3 B3 s3 rv fr p => hq v z H3 B3 ((s1.trans s2).trans s3) rv (fun _ => (fr.back s2).back s1) p
def fSplitD (P : Val → Prop) : D → D → Prop
  | .str a, .str b => ((b.length == 0) = false ∧ a.length + 2 ≤ sizeLine) ∧ P (.tmp (.lst ((Txt.split a b).map D.str)))
  | _, _ => False
def fSplit : F2 := fun x y P => fSplitD P x.d y.d
theorem q_split {o e : Expr} {apos pos : Pos} {da db : DE} {fa fb : Bool} (ho : PE X o (L X.K W fa da)) (he : PE X e (L X.K W fb db)) (hs : starEach [e] X.env = [(false, eval e X.env)] := by rfl) (hbase : attributeBase o "split" X.env (eval o X.env) = eval o X.env := by rfl) (hline : (apos.endLine == pos.line) = true := by rfl) :
    PE X (.Call (.Attribute o "split" apos) [e] [] pos) (L X.K W true (dM1 fSplit da db)) := imE (pe_split ho he hs hbase hline) (l_m1 (by
  intro B H x y vx vy P Q k rx ry h a
  unfold fSplit fSplitD at h
  split at h
  · rename_i u v e1 e2
    rw [rv_str rx e1, rv_str ry e2]
    exact ⟨u, v, rfl, rfl, h.1.1, h.1.2, fun p n => a.newL k (RepL.strs _) h.2 n⟩
  · exact h.elim))
def strsOf : List D → Option (List Str)
  | [] => some []
  | .str b :: r => (strsOf r).map (b :: ·)
  | _ => none
theorem strs_rep {K : PySem.W.Frag} {B : Hp} : ∀ {vs : List V} {ds : List D} {bs : List Str}, RepL K B vs ds → strsOf ds = some bs → vs = bs.map V.str
  | _, _, _, .nil, e => by
    have := Option.some.inj e
    subst this
    rfl
  | _, _, bs, .cons h r, e => by
    cases h with
    | str b =>
      unfold strsOf at e
      cases q : strsOf _ with
      | none => rw [q] at e; cases e
      | some cs =>
        rw [q] at e
        have := Option.some.inj e
        subst this
        rw [strs_rep r q]
        rfl
    | _ => cases e
theorem strsOf_map {α : Type} (f : α → Str) : ∀ l : List α, strsOf (l.map fun a => D.str (f a)) = some (l.map f)
  | [] => rfl
  | a :: r => by
    show (strsOf (r.map fun a => D.str (f a))).map (f a :: ·) = _
    rw [strsOf_map f r]
    rfl
def fJoinD (P : Val → Prop) : D → D → Prop
  | .str a, .lst l => onO (strsOf l) fun ys => (ys.map (·.length)).sum + ys.length * a.length ≤ 16777216 ∧ P (.dat (.str (Txt.join a ys)))
  | .str a, .tup l => onO (strsOf l) fun ys => (ys.map (·.length)).sum + ys.length * a.length ≤ 16777216 ∧ P (.dat (.str (Txt.join a ys)))
  | _, _ => False
def fJoin : F2 := fun x y P => fJoinD P x.d y.d
theorem q_join {o e : Expr} {apos pos : Pos} {da db : DE} {fa fb : Bool} (ho : PE X o (L X.K W fa da)) (he : PE X e (L X.K W fb db)) (hs : starEach [e] X.env = [(false, eval e X.env)] := by rfl) (hbase : attributeBase o "join" X.env (eval o X.env) = eval o X.env := by rfl) (hline : (apos.endLine == pos.line) = true := by rfl) :
    PE X (.Call (.Attribute o "join" apos) [e] [] pos) (L X.K W true (dM1 fJoin da db)) := imE (pe_join ho he hs hbase hline) (l_m1 (by
  intro B H x y vx vy P Q k rx ry h a
  unfold fJoin fJoinD at h
  split at h
  · rename_i u l e1 e2
    obtain ⟨ys, hy, h⟩ := onO_elim h
    rw [rv_str rx e1]
    obtain ⟨p, vs, rfl, hp, rl⟩ := rv_lst k ry e2
    have ev := strs_rep rl hy
    subst ev
    exact ⟨u, p, ys, rfl, rfl, .inl (.inl (.inl hp)), h.1, a.dat k (.str _) h.2⟩
  · rename_i u l e1 e2
    obtain ⟨ys, hy, h⟩ := onO_elim h
    rw [rv_str rx e1]
    obtain ⟨p, vs, rfl, _, hp, rl⟩ := rv_tup k ry e2
    have ev := strs_rep rl hy
    subst ev
    exact ⟨u, p, ys, rfl, rfl, .inr hp, h.1, a.dat k (.str _) h.2⟩
  · exact h.elim))
/-! ### dicts -/
def keyD : D → Option Key
  | .int i => some (.inl i)
  | .str x => some (.inr x)
  | _ => none
def putD (kvs : List (Key × D)) (k : Key) (v : D) : List (Key × D) :=
  if (kvs.any fun kv => decide (kv.1 = k)) = true then kvs.map (fun kv => if kv.1 = k then (kv.1, v) else kv) else kvs ++ [(k, v)]
def valD (kvs : List (Key × D)) (k : Key) : Option D := (kvs.find? fun kv => decide (kv.1 = k)).map (·.2)
theorem RepK.any {K : PySem.W.Frag} {B : Hp} {k : Key} : ∀ {vs : List (Key × V)} {ds : List (Key × D)}, RepK K B vs ds → (vs.any fun kv => decide (kv.1 = k)) = (ds.any fun kv => decide (kv.1 = k))
  | _, _, .nil => rfl
  | _, _, .cons h r => by
    rw [List.any_cons, List.any_cons, RepK.any r]
theorem RepK.put {K : PySem.W.Frag} {B : Hp} {k : Key} {v : V} {d : D} (h : Rep K B v d) {vs : List (Key × V)} {ds : List (Key × D)} (r : RepK K B vs ds) : RepK K B (putK vs k v) (putD ds k d) := by
  unfold putK putD
  rw [r.any]
  split
  · skip
    have g : ∀ {vs : List (Key × V)} {ds : List (Key × D)}, RepK K B vs ds → RepK K B (vs.map fun kv => if kv.1 = k then (kv.1, v) else kv) (ds.map fun kv => if kv.1 = k then (kv.1, d) else kv) := by
      intro vs
      induction vs with
      | nil => intro ds r; cases r; exact .nil
      | cons a vs ih =>
        intro ds r
        cases r with
        | @cons k2 v2 _ d2 _ h2 r2 =>
          rw [List.map_cons, List.map_cons]
          by_cases e : k2 = k
          · rw [if_pos (show (k2, v2).1 = k from e), if_pos (show (k2, d2).1 = k from e)]
            exact .cons h (ih r2)
          · rw [if_neg (show ¬ (k2, v2).1 = k from e), if_neg (show ¬ (k2, d2).1 = k from e)]
            exact .cons h2 (ih r2)
    exact g r
  · have g : ∀ {vs : List (Key × V)} {ds : List (Key × D)}, RepK K B vs ds → RepK K B (vs ++ [(k, v)]) (ds ++ [(k, d)]) := by
      intro vs
      induction vs with
      | nil => intro ds r; cases r; exact .cons h .nil
      | cons a vs ih =>
        intro ds r
        cases r with
        | cons h2 r2 => exact .cons h2 (ih r2)
    exact g r
theorem RepK.val {K : PySem.W.Frag} {B : Hp} {k : Key} {d : D} : ∀ {vs : List (Key × V)} {ds : List (Key × D)}, RepK K B vs ds → valD ds k = some d → ∃ v, valV vs k = some v ∧ Rep K B v d
  | _, _, .nil, e => by cases e
  | (k2, v2) :: vs, (_, d2) :: ds, .cons h r, e => by
    by_cases z : k2 = k
    · subst z
      have e2 : d2 = d := by simpa [valD] using e
      subst e2
      exact ⟨v2, by simp [valV], h⟩
    · obtain ⟨v, q1, q2⟩ := RepK.val (k := k) (d := d) r (by simpa [valD, List.find?_cons, z] using e)
      exact ⟨v, by rw [valV_neg (p := (k2, v2)) z]; exact q1, q2⟩
theorem RepK.val_none {K : PySem.W.Frag} {B : Hp} {k : Key} : ∀ {vs : List (Key × V)} {ds : List (Key × D)}, RepK K B vs ds → valD ds k = none → valV vs k = none
  | _, _, .nil, e => rfl
  | (k2, v2) :: vs, (_, d2) :: ds, .cons h r, e => by
    by_cases z : k2 = k
    · subst z
      simp [valD] at e
    · rw [valV_neg (p := (k2, v2)) z]
      exact RepK.val_none (k := k) r (by simpa [valD, List.find?_cons, z] using e)
/-- the pairs of a display -/
def dPairs : List (DE × DE) → DX → DEnv → (List (D × D) → Prop) → Prop
  | [], _, _, P => P []
  | (dk, dv) :: l, xc, r, P => dk xc r fun x => dv xc r fun y => asD (fun d => dPairs l xc r fun ps => P ((x.d, d) :: ps)) y
def keysD : List (D × D) → Option (List (Key × D))
  | [] => some []
  | (k, v) :: r => match keyD k, keysD r with
    | some q, some l => some ((q, v) :: l)
    | _, _ => none
def mergeD (kvs more : List (Key × D)) : List (Key × D) := more.foldl (fun acc kv => putD acc kv.1 kv.2) kvs
theorem RepK.merge {K : PySem.W.Frag} {B : Hp} : ∀ {more : List (Key × V)} {md : List (Key × D)}, RepK K B more md → ∀ {vs : List (Key × V)} {ds : List (Key × D)}, RepK K B vs ds → RepK K B (mergeK vs more) (mergeD ds md)
  | _, _, .nil, _, _, r => r
  | _, _, .cons h m, _, _, r => RepK.merge m (r.put h)
def dDisp (l : List (DE × DE)) : DE := fun xc r P => dPairs l xc r fun ps => onO (keysD ps) fun kds => kds.length ≤ 15 ∧ P (.tmp (.dic (mergeD [] kds)))
/-- the derivations of a display's pairs -/
inductive QPs (X : Cx) (W : WX) (pos : Pos) : List (Option Expr) → List Expr → List (TE × TE) → List (DE × DE) → Prop
  | nil : QPs X W pos [] [] [] []
  | cons {k v : Expr} {ks : List (Option Expr)} {vs : List Expr} {ts : List (TE × TE)} {l : List (DE × DE)} {dk dv : DE} (hk : PE X k (L X.K W true dk)) (hv : PE X v (L X.K W true dv)) (r : QPs X W pos ks vs ts l) :
      QPs X W pos (some k :: ks) (v :: vs) ((L X.K W true dk, L X.K W true dv) :: ts) ((dk, dv) :: l)
theorem QPs.pps {pos : Pos} {ks : List (Option Expr)} {vs : List Expr} {ts : List (TE × TE)} {l : List (DE × DE)} (h : QPs X W pos ks vs ts l) : PPs X pos ks vs ts := by
  induction h with
  | nil => exact pps_nil
  | cons hk hv _ ih => exact pps_cons hk hv ih
theorem key_v {K : PySem.W.Frag} {B H : Hp} {v : V} {x : Val} {k : Key} (r : RepV K B H v x) (e : keyD x.d = some k) : v = kV k := by
  cases h : x.d with
  | int i =>
    rw [h] at e
    cases e
    exact rv_int r h
  | str i =>
    rw [h] at e
    cases e
    exact rv_str r h
  | _ => rw [h] at e; cases e
theorem l_pairs {pos : Pos} {ks : List (Option Expr)} {vs : List Expr} {ts : List (TE × TE)} {l : List (DE × DE)} (h : QPs X W pos ks vs ts l) : ∀ (s : L2.St) (B H : Hp) (r : DEnv) (xc : DX) (P : List (D × D) → Prop) (Q : List (V × V) → Hp → Prop), Kp B H → EnvRep X.K B H s r → dPairs l xc r P →
    (∀ cls d e H' B', Step B H B' H' → ExcRep H' cls d e → xc e r → W cls d s H') →
    (∀ (ps : List (V × V)) (pd : List (D × D)) H' B', Step B H B' H' → P pd → (∀ kds, keysD pd = some kds → ∃ kvs, ps = kvs.map (fun kv => (kV kv.1, kv.2)) ∧ RepK X.K B' kvs kds) → Q ps H') → tPairs ts s H Q := by
  induction h with
  | nil => exact fun s B H r xc P Q k en h hx hq => hq [] [] H B (.refl k) h fun kds e => ⟨[], rfl, by cases e; exact .nil⟩
  | cons hk hv _ ih =>
    intro s B H r xc P Q k en h hx hq
    refine ⟨B, r, xc, _, k, en, h, hx, fun x vx H1 B1 z1 rx _ q1 => ?_⟩
    refine ⟨B1, r, xc, _, z1.sub, en.step z1, q1, fun cls d e H' B' st => hx cls d e H' B' (z1.trans st), fun y vy H2 B2 z2 ry _ q2 => ?_⟩
    cases vy with
    | tmp c => exact q2.elim
    | dat d =>
      have z12 := z1.trans z2
      refine ih s B2 H2 r xc _ _ z2.sub (en.step z12) q2 (fun cls d e H' B' st => hx cls d e H' B' (z12.trans st)) fun ps pd H3 B3 z3 p3 w => ?_
      refine hq _ _ H3 B3 (z12.trans z3) p3 fun kds e => ?_
      unfold keysD at e
      split at e
      · rename_i q l e1 e2
        cases e
        obtain ⟨kvs, rfl, rk⟩ := w l e2
        exact ⟨(q, y) :: kvs, by rw [key_v rx e1]; rfl, .cons (Rep.mono z3.kp ry) rk⟩
      · cases e
theorem q_disp {pos : Pos} {ks : List (Option Expr)} {vs : List Expr} {ts : List (TE × TE)} {l : List (DE × DE)} (h : QPs X W pos ks vs ts l) (hall : ks.all (·.isSome) = true) (hl : ks.length = vs.length) (h0 : ks ≠ []) (h15 : ks.length ≤ 15) : PE X (.Dict ks vs pos) (L X.K W true (dDisp l)) := by
  refine imE (pe_disp h.pps hall hl h0 h15) fun s H Q ⟨B, r, xc, P, k, en, hd, hx, hq⟩ => fun p n => ?_
  have z0 : Step B H B (upd H p (.dK [])) := .tmp k n
  refine l_pairs h s B _ r xc _ _ z0.sub (en.step z0) hd (fun cls d e H' B' st => hx cls d e H' B' (z0.trans st)) fun ps pd H2 B2 z2 p2 w => ?_
  obtain ⟨kds, e, p2⟩ := onO_elim p2
  · obtain ⟨kvs, rfl, rk⟩ := w kds e
    have hp := z2.out p (.dK []) upd_same (k.none n)
    have lk : ∀ {a : List (Key × V)} {b : List (Key × D)}, RepK X.K B2 a b → a.length = b.length := by
      intro a
      induction a with
      | nil => intro b r; cases r; rfl
      | cons x a ih => intro b r; cases r with | cons h r => exact congrArg (· + 1) (ih r)
    refine ⟨hp.1, kvs, rfl, by rw [lk rk]; exact p2.1, ?_⟩
    have z : Step B H B2 (upd H2 p (.dK (mergeK [] kvs))) := ⟨z2.kp, z2.sub.upd hp.2, fun a o ha nb => by
      have ne : a ≠ p := ne_of_none ha n
      rw [upd_ne ne]
      exact z2.out a o (by rw [upd_ne ne]; exact ha) nb⟩
    exact hq (.ref p) (.tmp (.dic (mergeD [] kds))) _ B2 z ⟨p, rfl, hp.2, _, upd_same, RepK.merge rk .nil⟩ (fun _ q c e _ => by cases e; exact n) p2.2
def dNewD : DE := fun _ _ P => P (.tmp (.dic []))
theorem q_newD {pos : Pos} : PE X (.Dict [] [] pos) (L X.K W true dNewD) := imE pe_dnewK fun s H Q ⟨B, r, xc, P, k, en, h, hx, hq⟩ => fun p n =>
  hq (.ref p) (.tmp (.dic [])) _ B (.tmp k n) ⟨p, rfl, k.none n, [], upd_same, .nil⟩ (fun _ q c e _ => by cases e; exact n) h
end
end Dl
/-! Dl5: draws. -/
namespace Dl
open PySem PySem.Spec PyProof.Rows L2
section
variable {X : Cx} {W : WX}
def drIn (key : Str) (n : Int) : Prop := 0 ≤ n ∧ (key = "mixed" → n < 2147483647)
/-- d["rest"], d["mixed"] of a draw: any number that may stand there -/
def dDrawGet (i : Nat) (key : Str) : DE := fun _ r P => match lk r i with
  | some (.dat .draw) => ∀ n : Int, drIn key n → P (.dat (.int n))
  | _ => False
theorem key_ne : ("rest" : Str) ≠ "mixed" := by decide
theorem q_drawGet (i : Nat) {x key : Str} {j : Nat} {p1 p2 pos : Pos} (hk : key = "rest" ∨ key = "mixed") (hu : X.A.units + 1 < cLine) (hx : PE X (.Name x p1) (tVar i)) (hs : NoSl (.Constant (.str key) j p2)) :
    PE X (.Subscript (.Name x p1) (.Constant (.str key) j p2) pos) (L X.K W true (dDrawGet i key)) := by
  refine imE (pe_dget hu hx pe_str hs) fun s H Q ⟨B, r, xc, P, k, en, h, hx, hq⟩ => ?_
  unfold dDrawGet at h
  split at h
  · rename_i e
    obtain ⟨v, hv, rv⟩ := en.at_ i _ e
    cases rv with
    | @draw a o hb d =>
      obtain ⟨u, hu, a1, a2, mo, rfl, b1, b2, b3, b4, b5⟩ := (k _ _ hb).2 d
      refine ⟨.ref a, hv, a, ?_⟩
      rcases hk with rfl | rfl
      · exact ⟨.int a1, rfl, DGet.k (k := .inr "rest") hu, hq _ (.dat (.int a1)) H B (.refl k) (.int a1) (fun _ => Fr.dat) (h a1 ⟨b1, fun z => absurd z key_ne⟩)⟩
      · exact ⟨.int a2, rfl, DGet.k (k := .inr "mixed") hu, hq _ (.dat (.int a2)) H B (.refl k) (.int a2) (fun _ => Fr.dat) (h a2 ⟨b2, fun _ => b3⟩)⟩
  · exact h.elim
theorem map_same {k : Key} {v : V} : ∀ {mo : List (Key × V)}, (∀ p ∈ mo, p.1 ≠ k) → (mo.map fun kv => if kv.1 = k then (kv.1, v) else kv) = mo
  | [], _ => rfl
  | a :: r, h => by
    rw [List.map_cons, if_neg (h a (List.mem_cons_self ..)), map_same fun p hp => h p (List.mem_cons_of_mem _ hp)]
theorem put_rest {mo : List (Key × V)} (a b n : V) (h : ∀ p ∈ mo, p.1 ≠ .inr "rest") : putK ((.inr "rest", a) :: (.inr "mixed", b) :: mo) (.inr "rest") n = (.inr "rest", n) :: (.inr "mixed", b) :: mo := by
  unfold putK
  rw [if_pos (by rw [List.any_cons]; simp), List.map_cons, List.map_cons, map_same h, if_pos rfl, if_neg (fun e => key_ne (Sum.inr.inj e).symm)]
theorem put_mixed {mo : List (Key × V)} (a b n : V) (h : ∀ p ∈ mo, p.1 ≠ .inr "mixed") : putK ((.inr "rest", a) :: (.inr "mixed", b) :: mo) (.inr "mixed") n = (.inr "rest", a) :: (.inr "mixed", n) :: mo := by
  unfold putK
  rw [if_pos (by rw [List.any_cons, List.any_cons]; simp), List.map_cons, List.map_cons, map_same h, if_neg (fun e => key_ne (Sum.inr.inj e)), if_pos rfl]
/-- d["rest"] = e, d["mixed"] = e of a draw -/
def dDrawPut (i : Nat) (key : Str) (de : DE) : DS := fun xc E r => match lk r i with
  | some (.dat .draw) => de xc r fun x => asI (fun n => drIn key n ∧ E.nx r) x.d
  | _ => False
theorem qs_drawPut (i : Nat) {x key : Str} {j : Nat} {p1 p2 p3 pos : Pos} {e : Expr} {de : DE} {f : Bool} (hk : key = "rest" ∨ key = "mixed") (hu : X.A.units + 1 < cLine) (hx : PE X (.Name x p1) (tVar i)) (he : PE X e (L X.K W f de))
    (hs : swapsWith e (some (.Subscript (.Name x p1) (.Constant (.str key) j p2) p3)) pos.line X.env = pure false := by rfl) :
    PS X (.Assign [.Subscript (.Name x p1) (.Constant (.str key) j p2) p3] e pos) (LS X.K W (dDrawPut i key de)) := by
  refine imS (ps_dput hu hx pe_str he hs) fun E s H ⟨B, r, xc, De, k, en, h, hx, nx, bk, ct, rt⟩ => ?_
  unfold dDrawPut at h
  split at h
  · rename_i el
    refine ⟨B, r, xc, _, k, en, h, fun cls d e H' B' z => hx cls d e s r H' B' z.s (en.step z), fun v x H1 B1 z rv _ q => ?_⟩
    obtain ⟨n, en2, q⟩ := asI_elim q
    · have ev := rv_int rv en2
      subst ev
      obtain ⟨vd, hv, rd⟩ := (en.step z).at_ i _ el
      cases rd with
      | @draw a o hb d =>
        obtain ⟨u, hu1, a1, a2, mo, rfl, b1, b2, b3, b4, b5⟩ := (z.sub _ _ hb).2 d
        have lm : ((.inr "rest", V.int a1) :: (.inr "mixed", V.int a2) :: mo : List (Key × V)).length < sizeLine := by
          rw [List.length_cons, List.length_cons]
          exact Nat.lt_of_le_of_lt (Nat.add_le_add_right (Nat.add_le_add_right b4 1) 1) (by decide)
        rcases hk with rfl | rfl
        · have e0 := put_rest (V.int a1) (V.int a2) (V.int n) fun p hp => (b5 p hp).1
          have z2 : Step B1 H1 B1 (upd H1 a (.dK (putK ((.inr "rest", V.int a1) :: (.inr "mixed", V.int a2) :: mo) (.inr "rest") (V.int n)))) := .draw z.sub hb d (by rw [e0]; exact ⟨n, a2, mo, rfl, q.1.1, b2, b3, b4, b5⟩)
          exact ⟨.ref a, hv, a, _, rfl, DPut.k (k := .inr "rest") hu1 lm, nx _ _ _ _ (z.trans z2).s (en.step (z.trans z2)) q.2⟩
        · have e0 := put_mixed (V.int a1) (V.int a2) (V.int n) fun p hp => (b5 p hp).2
          have z2 : Step B1 H1 B1 (upd H1 a (.dK (putK ((.inr "rest", V.int a1) :: (.inr "mixed", V.int a2) :: mo) (.inr "mixed") (V.int n)))) := .draw z.sub hb d (by rw [e0]; exact ⟨a1, n, mo, rfl, b1, q.1.1, q.1.2 rfl, b4, b5⟩)
          exact ⟨.ref a, hv, a, _, rfl, DPut.k (k := .inr "mixed") hu1 lm, nx _ _ _ _ (z.trans z2).s (en.step (z.trans z2)) q.2⟩
  · exact h.elim
/-- a new dict that is a draw -/
def dDraw (de : DE) : DE := fun xc r P => de xc r fun x => (∃ (a b : Int) (m : List (Key × D)), x = .tmp (.dic ((.inr "rest", .int a) :: (.inr "mixed", .int b) :: m)) ∧ 0 ≤ a ∧ 0 ≤ b ∧ b < 2147483647 ∧ m.length ≤ 20 ∧ ∀ p ∈ m, p.1 ≠ .inr "rest" ∧ p.1 ≠ .inr "mixed") ∧ P (.dat .draw)
theorem RepK.keys {K : PySem.W.Frag} {B : Hp} : ∀ {vs : List (Key × V)} {ds : List (Key × D)}, RepK K B vs ds → vs.map (·.1) = ds.map (·.1)
  | _, _, .nil => rfl
  | _, _, .cons _ r => by rw [List.map_cons, List.map_cons, RepK.keys r]
theorem q_draw {e : Expr} {de : DE} (h : PE X e (L X.K W true de)) : PE X e (L X.K W true (dDraw de)) := by
  refine imE h fun s H Q ⟨B, r, xc, P, k, en, h, hx, hq⟩ => ⟨B, r, xc, _, k, en, h, hx, fun v x H1 B1 s1 rx fr q => ?_⟩
  obtain ⟨⟨a, b, m, rfl, h1, h2, h3, h4, h5⟩, q⟩ := q
  obtain ⟨p, rfl, n, kvs, hp, rk⟩ := rx
  have np := fr rfl p _ rfl rfl
  have ekv : ∃ mo, kvs = (.inr "rest", .int a) :: (.inr "mixed", .int b) :: mo ∧ mo.map (·.1) = m.map (·.1) := by
    cases rk with
    | cons r1 rk =>
      cases rk with
      | cons r2 rk =>
        cases r1
        cases r2
        exact ⟨_, rfl, rk.keys⟩
  obtain ⟨mo, rfl, ek⟩ := ekv
  have dr : DrawO (.dK ((.inr "rest", .int a) :: (.inr "mixed", .int b) :: mo)) := ⟨a, b, mo, rfl, h1, h2, h3, by rw [← List.length_map (f := (·.1)), ek, List.length_map]; exact h4, fun p hp => by
    have hm : p.1 ∈ m.map (·.1) := by rw [← ek]; exact List.mem_map.mpr ⟨p, hp, rfl⟩
    obtain ⟨q, hq, e⟩ := List.mem_map.mp hm
    rw [← e]
    exact h5 q hq⟩
  have z : Step B H (upd B1 p (.dK ((.inr "rest", .int a) :: (.inr "mixed", .int b) :: mo))) H1 := ⟨s1.kp.trans (.new n), fun c u e => by
    by_cases z : c = p
    · subst z
      rw [upd_same] at e
      cases e
      exact ⟨fun _ => hp, fun d => ⟨_, hp, d⟩⟩
    · rw [upd_ne z] at e
      exact s1.sub c u e, fun c u e nb => by
    have ne : c ≠ p := fun z => by rw [z, np] at e; cases e
    rw [upd_ne ne]
    exact s1.out c u e nb⟩
  exact hq (.ref p) (.dat .draw) H1 _ z (.draw upd_same dr) (fun _ => Fr.dat) q
end
end Dl
/-! Dl6: constants of the top, defs that are not called, the law's entry. -/
namespace Dl
open PySem PySem.Spec PyProof.Rows L2
def strV : Value → Option Str
  | .str x _ => some x
  | _ => none
def isTupC : Value → Bool
  | .type n => n == "tuple"
  | _ => false
def cstTup (o : Obj) (ks : List Str) : Bool := isTupC o.cls && (match o.data with
  | .seq its _ => decide (its.toList.map strV = ks.map some) && decide (its.size ≤ sizeLine)
  | _ => false)
theorem vals_of_strs {K : PySem.W.Frag} {B : Hp} : ∀ {us : List Value} {ks : List Str}, us.map strV = ks.map some → Vals (ks.map V.str) us
  | [], [], _ => .nil
  | [], _ :: _, h => nomatch h
  | _ :: _, [], h => nomatch h
  | u :: us, k :: ks, h => by
    rw [List.map_cons, List.map_cons] at h
    injection h with h1 h2
    cases u <;> first
      | (cases h1; exact .cons ⟨_, rfl⟩ (vals_of_strs (K := K) (B := B) h2))
      | cases h1
theorem isTupC_is : ∀ {v : Value}, isTupC v = true → v = .type "tuple"
  | .type n, h => by
    have e : n = "tuple" := by simpa [isTupC] using h
    rw [e]
theorem cstTup_rep {K : PySem.W.Frag} {B : Hp} {a : Addr} {o : Obj} {ks : List Str} (r : K.lookup a = some o) (t : cstTup o ks = true) : Rep K B (.ref a) (.tup (ks.map D.str)) := by
  unfold cstTup at t
  have t := Bool.and_eq_true_iff.mp t
  obtain ⟨t1, t2⟩ := t
  have hc : o.cls = .type "tuple" := isTupC_is t1
  cases e : o.data with
  | seq its n =>
    rw [e] at t2
    have t2 := Bool.and_eq_true_iff.mp t2
    have h1 := of_decide_eq_true t2.1
    have h2 := of_decide_eq_true t2.2
    refine .tup (.inr ⟨o, its, n, r, hc, e, h2, vals_of_strs (K := K) (B := B) h1⟩) (RepL.strs ks)
  | _ => rw [e] at t2; cases t2
def cstV (u : Value) (d : D) : Bool := match u, d with
  | .int i _, .int j => i == j
  | .str x _, .str y => x == y
  | .bool x, .bl y => x == y
  | .none, .non => true
  | _, _ => false
theorem cstV_rep {K : PySem.W.Frag} {u : Value} {d : D} (t : cstV u d = true) : RelV (dV d) u ∧ ∀ B, Rep K B (dV d) d := by
  unfold cstV at t
  split at t
  · rename_i i tk j
    have e : i = j := by simpa using t
    subst e
    exact ⟨⟨_, rfl⟩, fun B => .int i⟩
  · rename_i i tk j
    have e : i = j := by simpa using t
    subst e
    exact ⟨⟨_, rfl⟩, fun B => .str i⟩
  · rename_i i j
    have e : i = j := by simpa using t
    subst e
    exact ⟨rfl, fun B => .bl i⟩
  · exact ⟨rfl, fun B => .non⟩
  · cases t
section
variable {P : Program} {w : World} {K : PySem.W.Frag} {mg : Str → Option Value} {base : Heap}
/-- a promise that nobody can ask for -/
theorem fn_no {CX : CXT} {k : Nat} {f : Addr} {fd : FuncData} {ps : List Str} {sp : DSp} (no : ∀ ds xc R, ¬ sp ds xc R) : FnOk P w K mg base CX k f fd ps (spD K sp) :=
  have z : ∀ vs H Q E, ¬ spD K sp vs H Q E := fun vs H Q E ⟨_, ds, xc, R, _, _, h, _⟩ => no ds xc R h
  ⟨fun vs H Q E h => absurd h (z vs H Q E), fun A outer s H args us vs Q E _ _ _ _ h => absurd h (z vs H Q E)⟩
theorem law_in {sp : DSp} {H : Hp} {a : Addr} {ns : List Int} (hS : SqL K H a (ns.map V.int)) (h : sp [.scr ns] (fun _ => False) (fun v => v = .dat (.bl true))) : spD K sp [.ref a] H (fun v _ => v = .bl true) fun _ _ _ => False :=
  ⟨H, [.scr ns], fun _ => False, fun v => v = .dat (.bl true), .refl H, .cons (.scr hS) .nil, h, fun _ _ _ _ _ _ _ z => z.elim, fun v x H' B' z rv fr p => by subst p; cases rv; rfl⟩
end
/-! ### plain facts for the readings -/
theorem mulOk {i j : Int} (hi : -(2 ^ 64) < i ∧ i < 2 ^ 64) (hj : -(2 ^ 64) < j ∧ j < 2 ^ 64) : CMulW i j :=
  wide_mul (a := 64) (b := 64) (by omega) (by omega) (by decide) (by decide) (by decide)
theorem divOk {i j : Int} (hj : 0 < j) (hl : j < 2 ^ 100) : CDivW i j := wide_div (b := 100) hj (by omega) (by decide) (by decide)
theorem atI_get {α : Type} {l : List α} {i : Int} (h0 : 0 ≤ i) (h : i < (l.length : Int)) : ∃ d, atI l i = some d ∧ d ∈ l := by
  have hk : i.toNat < l.length := by omega
  have e : i = ((i.toNat : Nat) : Int) := by omega
  have q : atI l ((i.toNat : Nat) : Int) = some l[i.toNat] := atI_nat (by rw [List.getElem?_eq_getElem hk])
  rw [← e] at q
  exact ⟨_, q, List.getElem_mem hk⟩
end Dl
/-! Dl7: the equations by which readings are opened. Printed by mkeqs.py. -/
namespace Dl
open PySem PySem.Spec PyProof.Rows L2
theorem y001 (C : Int → Int → Prop) (g : Int → Int → D) (P : Val → Prop) (i j : Int) : (fID C g P (.int i) (.int j)) = (C i j ∧ P (.dat (g i j))) := rfl
theorem y002 (g : Int → Int → D) (P : Val → Prop) (i j : Int) : (fI0D g P (.int i) (.int j)) = (P (.dat (g i j))) := rfl
theorem y003 (P : Val → Prop) (i : Int) : (fNegD P (.int i)) = (P (.dat (.int (-i)))) := rfl
theorem y004 (P : Val → Prop) (i j : Int) : (fAddD P (.int i) (.int j)) = (P (.dat (.int (i + j)))) := rfl
theorem y005 (P : Val → Prop) (i j : Str) : (fAddD P (.str i) (.str j)) = (i.length + j.length ≤ sizeLine ∧ P (.dat (.str (i ++ j)))) := rfl
theorem y006 (P : Val → Prop) (i j : List D) : (fAddD P (.lst i) (.lst j)) = (i.length + j.length ≤ sizeLine ∧ P (.tmp (.lst (i ++ j)))) := rfl
theorem y007 (P : Val → Prop) (i j : List D) : (fAddD P (.tup i) (.tup j)) = (i.length + j.length ≤ sizeLine ∧ P (.dat (.tup (i ++ j)))) := rfl
theorem y008 (P : Val → Prop) (x : D) : (fIsD P x .non) = (P (.dat (.bl x.isN))) := rfl
theorem y009 (P : Val → Prop) (a b : Bool) : (fIsD P (.bl a) (.bl b)) = (P (.dat (.bl (decide (a = b))))) := rfl
theorem y010 (P : Val → Prop) (x : D) : (fIsNotD P x .non) = (P (.dat (.bl (!x.isN)))) := rfl
theorem y011 (P : Val → Prop) (a b : Bool) : (fIsNotD P (.bl a) (.bl b)) = (P (.dat (.bl (!decide (a = b))))) := rfl
theorem y012 (neg : Bool) (P : Val → Prop) (x : D) (l : List D) : (fInD neg P x (.lst l)) = ((flatD x = true ∧ l.all flatD = true) ∧ P (.dat (.bl (if neg then !inD x l else inD x l)))) := rfl
theorem y013 (neg : Bool) (P : Val → Prop) (x : D) (l : List D) : (fInD neg P x (.tup l)) = ((flatD x = true ∧ l.all flatD = true) ∧ P (.dat (.bl (if neg then !inD x l else inD x l)))) := rfl
theorem y014 (neg : Bool) (P : Val → Prop) (x : D) (z : Str) : (fInD neg P x (.str z)) = (∃ c, x = .str ⟨#[c]⟩ ∧ P (.dat (.bl (if neg then !decide (c ∈ z.cps.toList) else decide (c ∈ z.cps.toList))))) := rfl
theorem y015 (P : Bool → Prop) : (fTruD P .non) = (P false) := rfl
theorem y016 (P : Bool → Prop) (b : Bool) : (fTruD P (.bl b)) = (P b) := rfl
theorem y017 (P : Bool → Prop) (i : Int) : (fTruD P (.int i)) = (P (i != 0)) := rfl
theorem y018 (P : Bool → Prop) (y : Str) : (fTruD P (.str y)) = (y.length ≤ sizeLine ∧ P ((y.length : Int) != 0)) := rfl
theorem y019 (P : Bool → Prop) (l : List D) : (fTruD P (.tup l)) = (P (!l.isEmpty)) := rfl
theorem y020 (P : Bool → Prop) (l : List D) : (fTruD P (.lst l)) = (P (!l.isEmpty)) := rfl
theorem y021 (P : Bool → Prop) (l : List (Key × D)) : (fTruD P (.dic l)) = (P (!l.isEmpty)) := rfl
theorem y022 (P : Bool → Prop) (l : List Int) : (fTruD P (.scr l)) = (P (!l.isEmpty)) := rfl
theorem y023 (P : Val → Prop) (l : List D) (i : Int) : (fIxD P (.tup l) (.int i)) = (onO (atI l i) fun d => P (.dat d)) := rfl
theorem y024 (P : Val → Prop) (l : List D) (i : Int) : (fIxD P (.lst l) (.int i)) = (onO (atI l i) fun d => P (.dat d)) := rfl
theorem y025 (P : Val → Prop) (l : List Int) (i : Int) : (fIxD P (.scr l) (.int i)) = (onO (atI l i) fun n => P (.dat (.int n))) := rfl
theorem y026 (P : Val → Prop) (z : Str) (i : Int) : (fIxD P (.str z) (.int i)) = (z.length ≤ sizeLine ∧ onO (atI z.cps.toList i) fun c => P (.dat (.str ⟨#[c]⟩))) := rfl
theorem y027 (P : Val → Prop) (z : Str) : (fLenD P (.str z)) = (z.length ≤ sizeLine ∧ P (.dat (.int z.length))) := rfl
theorem y028 (P : Val → Prop) (l : List D) : (fLenD P (.tup l)) = (P (.dat (.int l.length))) := rfl
theorem y029 (P : Val → Prop) (l : List D) : (fLenD P (.lst l)) = (P (.dat (.int l.length))) := rfl
theorem y030 (P : Val → Prop) (l : List Int) : (fLenD P (.scr l)) = (P (.dat (.int l.length))) := rfl
theorem y031 (P : Val → Prop) (i : Int) : (fAbsD P (.int i)) = (P (.dat (.int (if i < 0 then -i else i)))) := rfl
theorem y032 (P : Val → Prop) (i : Int) : (fIntD P (.int i)) = (P (.dat (.int i))) := rfl
theorem y033 (P : Val → Prop) (b : Bool) : (fIntD P (.bl b)) = (P (.dat (.int (if b then 1 else 0)))) := rfl
theorem y034 (P : Val → Prop) (l : List D) : (fListD P (.lst l)) = (P (.tmp (.lst l))) := rfl
theorem y035 (P : Val → Prop) (l : List D) : (fTupleD P (.lst l)) = (P (.dat (.tup l))) := rfl
theorem y036 (P : Val → Prop) (l : List D) : (fListD P (.tup l)) = (P (.tmp (.lst l))) := rfl
theorem y037 (P : Val → Prop) (l : List D) : (fTupleD P (.tup l)) = (P (.dat (.tup l))) := rfl
theorem y038 (P : Val → Prop) (l : List Int) : (fListD P (.scr l)) = (P (.tmp (.lst (l.map D.int)))) := rfl
theorem y039 (P : Val → Prop) (l : List Int) : (fTupleD P (.scr l)) = (P (.dat (.tup (l.map D.int)))) := rfl
theorem y040 (P : Val → Prop) (l : List D) : (fAllD P (.lst l)) = (onO (blsOf l) fun bs => P (.dat (.bl (bs.all id)))) := rfl
theorem y041 (P : Val → Prop) (l : List D) : (fAnyD P (.lst l)) = (onO (blsOf l) fun bs => P (.dat (.bl (bs.any id)))) := rfl
theorem y042 (P : Val → Prop) (a b : Str) : (fSplitD P (.str a) (.str b)) = (((b.length == 0) = false ∧ a.length + 2 ≤ sizeLine) ∧ P (.tmp (.lst ((Txt.split a b).map D.str)))) := rfl
theorem y043 (P : Val → Prop) (a : Str) (l : List D) : (fJoinD P (.str a) (.lst l)) = (onO (strsOf l) fun ys => (ys.map (·.length)).sum + ys.length * a.length ≤ 16777216 ∧ P (.dat (.str (Txt.join a ys)))) := rfl
theorem y044 (P : Val → Prop) (a : Str) (l : List D) : (fJoinD P (.str a) (.tup l)) = (onO (strsOf l) fun ys => (ys.map (·.length)).sum + ys.length * a.length ≤ 16777216 ∧ P (.dat (.str (Txt.join a ys)))) := rfl
theorem y045 (P : Bool → Prop) (b : Bool) : (asB P (.bl b)) = (P b) := rfl
theorem y046 (P : D → Prop) (d : D) : (asD P (.dat d)) = (P d) := rfl
theorem y047 (P : D → Prop) (c : Ct) : (asD P (.tmp c)) = (False) := rfl
theorem y048 (P : Int → Prop) (i : Int) : (asI P (.int i)) = (P i) := rfl
theorem y049 (P : Str → Prop) (s : Str) : (asS P (.str s)) = (P s) := rfl
theorem y050 (P : List D → Prop) (l : List D) : (fItD P (.lst l)) = (P l) := rfl
theorem y051 (P : List D → Prop) (l : List D) : (fItD P (.tup l)) = (P l) := rfl
theorem y052 (P : List D → Prop) (l : List Int) : (fItD P (.scr l)) = (P (l.map D.int)) := rfl
theorem y053 (P : List D → Prop) (y : Str) : (fItD P (.str y)) = (P (y.cps.toList.map fun c => D.str ⟨#[c]⟩)) := rfl
theorem y054 (lo hi : Option Int) (P : Val → Prop) (l : List D) : (fSlD lo hi P (.lst l)) = (P (.tmp (.lst (cutD l lo hi)))) := rfl
theorem y055 (lo hi : Option Int) (P : Val → Prop) (l : List D) : (fSlD lo hi P (.tup l)) = (P (.dat (.tup (cutD l lo hi)))) := rfl
theorem y056 (lo hi : Option Int) (P : Val → Prop) (z : Str) : (fSlD lo hi P (.str z)) = (z.length ≤ sizeLine ∧ P (.dat (.str (cutS z lo hi)))) := rfl
theorem y057 (P : List (D × D) → Prop) (xc : DX) (r : DEnv) : (dPairs [] xc r P) = (P []) := rfl
theorem y058 (P : List (D × D) → Prop) (xc : DX) (r : DEnv) (dk dv : DE) (l : List (DE × DE)) : (dPairs ((dk, dv) :: l) xc r P) = (dk xc r fun x => dv xc r fun y => asD (fun d => dPairs l xc r fun ps => P ((x.d, d) :: ps)) y) := rfl
theorem y059 (P : D → Prop) (d : D) : (onO (some d) P) = (P d) := rfl
theorem y060 (d : D) : ((Val.dat d).d) = (d) := rfl
theorem y061 (c : Ct) : ((Val.tmp c).d) = (c.d) := rfl
theorem y062 (l : List D) : ((Ct.lst l).d) = (.lst l) := rfl
theorem y063 (l : List (Key × D)) : ((Ct.dic l).d) = (.dic l) := rfl
theorem y064 (d : D) : ((Val.dat d).safe) = (True) := rfl
theorem y065 (c : Ct) : ((Val.tmp c).safe) = (c.safe) := rfl
theorem y066 (l : List D) : ((Ct.lst l).safe) = (True) := rfl
theorem y067 (A B : Prop) : (ifB true A B) = (A) := rfl
theorem y068 (A B : Prop) : (ifB false A B) = (B) := rfl
theorem y069 : (!true) = (false) := rfl
theorem y070 : (!false) = (true) := rfl
theorem y071 (A B : Bool) : (if true = true then A else B) = (A) := rfl
theorem y072 (A B : Bool) : (if false = true then A else B) = (B) := rfl
theorem y073 : (D.isi .str (.non)) = (false) := rfl
theorem y074 (x : Bool) : (D.isi .str (.bl x)) = (false) := rfl
theorem y075 (x : Int) : (D.isi .str (.int x)) = (false) := rfl
theorem y076 (x : Str) : (D.isi .str (.str x)) = (true) := rfl
theorem y077 (x : String) : (D.isi .str (.ty x)) = (false) := rfl
theorem y078 (x : List D) : (D.isi .str (.tup x)) = (false) := rfl
theorem y079 (x : List D) : (D.isi .str (.lst x)) = (false) := rfl
theorem y080 (x : List (Key × D)) : (D.isi .str (.dic x)) = (false) := rfl
theorem y081 : (D.isi .str (.draw)) = (false) := rfl
theorem y082 (x : List Int) : (D.isi .str (.scr x)) = (false) := rfl
theorem y083 (x : Addr) : (D.isi .str (.obj x)) = (false) := rfl
theorem y084 : (D.isi .int (.non)) = (false) := rfl
theorem y085 (x : Bool) : (D.isi .int (.bl x)) = (true) := rfl
theorem y086 (x : Int) : (D.isi .int (.int x)) = (true) := rfl
theorem y087 (x : Str) : (D.isi .int (.str x)) = (false) := rfl
theorem y088 (x : String) : (D.isi .int (.ty x)) = (false) := rfl
theorem y089 (x : List D) : (D.isi .int (.tup x)) = (false) := rfl
theorem y090 (x : List D) : (D.isi .int (.lst x)) = (false) := rfl
theorem y091 (x : List (Key × D)) : (D.isi .int (.dic x)) = (false) := rfl
theorem y092 : (D.isi .int (.draw)) = (false) := rfl
theorem y093 (x : List Int) : (D.isi .int (.scr x)) = (false) := rfl
theorem y094 (x : Addr) : (D.isi .int (.obj x)) = (false) := rfl
theorem y095 : (D.isi .bool (.non)) = (false) := rfl
theorem y096 (x : Bool) : (D.isi .bool (.bl x)) = (true) := rfl
theorem y097 (x : Int) : (D.isi .bool (.int x)) = (false) := rfl
theorem y098 (x : Str) : (D.isi .bool (.str x)) = (false) := rfl
theorem y099 (x : String) : (D.isi .bool (.ty x)) = (false) := rfl
theorem y100 (x : List D) : (D.isi .bool (.tup x)) = (false) := rfl
theorem y101 (x : List D) : (D.isi .bool (.lst x)) = (false) := rfl
theorem y102 (x : List (Key × D)) : (D.isi .bool (.dic x)) = (false) := rfl
theorem y103 : (D.isi .bool (.draw)) = (false) := rfl
theorem y104 (x : List Int) : (D.isi .bool (.scr x)) = (false) := rfl
theorem y105 (x : Addr) : (D.isi .bool (.obj x)) = (false) := rfl
theorem y106 : (D.isi .tuple (.non)) = (false) := rfl
theorem y107 (x : Bool) : (D.isi .tuple (.bl x)) = (false) := rfl
theorem y108 (x : Int) : (D.isi .tuple (.int x)) = (false) := rfl
theorem y109 (x : Str) : (D.isi .tuple (.str x)) = (false) := rfl
theorem y110 (x : String) : (D.isi .tuple (.ty x)) = (false) := rfl
theorem y111 (x : List D) : (D.isi .tuple (.tup x)) = (true) := rfl
theorem y112 (x : List D) : (D.isi .tuple (.lst x)) = (false) := rfl
theorem y113 (x : List (Key × D)) : (D.isi .tuple (.dic x)) = (false) := rfl
theorem y114 : (D.isi .tuple (.draw)) = (false) := rfl
theorem y115 (x : List Int) : (D.isi .tuple (.scr x)) = (false) := rfl
theorem y116 (x : Addr) : (D.isi .tuple (.obj x)) = (false) := rfl
theorem y117 : (D.isi .list (.non)) = (false) := rfl
theorem y118 (x : Bool) : (D.isi .list (.bl x)) = (false) := rfl
theorem y119 (x : Int) : (D.isi .list (.int x)) = (false) := rfl
theorem y120 (x : Str) : (D.isi .list (.str x)) = (false) := rfl
theorem y121 (x : String) : (D.isi .list (.ty x)) = (false) := rfl
theorem y122 (x : List D) : (D.isi .list (.tup x)) = (false) := rfl
theorem y123 (x : List D) : (D.isi .list (.lst x)) = (true) := rfl
theorem y124 (x : List (Key × D)) : (D.isi .list (.dic x)) = (false) := rfl
theorem y125 : (D.isi .list (.draw)) = (false) := rfl
theorem y126 (x : List Int) : (D.isi .list (.scr x)) = (true) := rfl
theorem y127 (x : Addr) : (D.isi .list (.obj x)) = (false) := rfl
theorem y128 : (D.isi .dict (.non)) = (false) := rfl
theorem y129 (x : Bool) : (D.isi .dict (.bl x)) = (false) := rfl
theorem y130 (x : Int) : (D.isi .dict (.int x)) = (false) := rfl
theorem y131 (x : Str) : (D.isi .dict (.str x)) = (false) := rfl
theorem y132 (x : String) : (D.isi .dict (.ty x)) = (false) := rfl
theorem y133 (x : List D) : (D.isi .dict (.tup x)) = (false) := rfl
theorem y134 (x : List D) : (D.isi .dict (.lst x)) = (false) := rfl
theorem y135 (x : List (Key × D)) : (D.isi .dict (.dic x)) = (true) := rfl
theorem y136 : (D.isi .dict (.draw)) = (true) := rfl
theorem y137 (x : List Int) : (D.isi .dict (.scr x)) = (false) := rfl
theorem y138 (x : Addr) : (D.isi .dict (.obj x)) = (false) := rfl
theorem y139 : (D.plain (.non)) = (true) := rfl
theorem y140 : (flatD (.non)) = (true) := rfl
theorem y141 : (D.isN (.non)) = (true) := rfl
theorem y142 (x : Bool) : (D.plain (.bl x)) = (true) := rfl
theorem y143 (x : Bool) : (flatD (.bl x)) = (true) := rfl
theorem y144 (x : Bool) : (D.isN (.bl x)) = (false) := rfl
theorem y145 (x : Int) : (D.plain (.int x)) = (true) := rfl
theorem y146 (x : Int) : (flatD (.int x)) = (true) := rfl
theorem y147 (x : Int) : (D.isN (.int x)) = (false) := rfl
theorem y148 (x : Str) : (D.plain (.str x)) = (true) := rfl
theorem y149 (x : Str) : (flatD (.str x)) = (true) := rfl
theorem y150 (x : Str) : (D.isN (.str x)) = (false) := rfl
theorem y151 (x : String) : (D.plain (.ty x)) = (false) := rfl
theorem y152 (x : String) : (flatD (.ty x)) = (false) := rfl
theorem y153 (x : String) : (D.isN (.ty x)) = (false) := rfl
theorem y154 (x : List D) : (D.plain (.tup x)) = (true) := rfl
theorem y155 (x : List D) : (flatD (.tup x)) = (false) := rfl
theorem y156 (x : List D) : (D.isN (.tup x)) = (false) := rfl
theorem y157 (x : List D) : (D.plain (.lst x)) = (true) := rfl
theorem y158 (x : List D) : (flatD (.lst x)) = (false) := rfl
theorem y159 (x : List D) : (D.isN (.lst x)) = (false) := rfl
theorem y160 (x : List (Key × D)) : (D.plain (.dic x)) = (true) := rfl
theorem y161 (x : List (Key × D)) : (flatD (.dic x)) = (false) := rfl
theorem y162 (x : List (Key × D)) : (D.isN (.dic x)) = (false) := rfl
theorem y163 : (D.plain (.draw)) = (true) := rfl
theorem y164 : (flatD (.draw)) = (false) := rfl
theorem y165 : (D.isN (.draw)) = (false) := rfl
theorem y166 (x : List Int) : (D.plain (.scr x)) = (false) := rfl
theorem y167 (x : List Int) : (flatD (.scr x)) = (false) := rfl
theorem y168 (x : List Int) : (D.isN (.scr x)) = (false) := rfl
theorem y169 (x : Addr) : (D.plain (.obj x)) = (false) := rfl
theorem y170 (x : Addr) : (flatD (.obj x)) = (false) := rfl
theorem y171 (x : Addr) : (D.isN (.obj x)) = (false) := rfl
/-- one statement, what follows it kept shut -/
theorem seq_k {t u : DS} {xc : DX} {E : DEnds} {r : DEnv} (h : ∀ K : DEnv → Prop, K = u xc E → t xc { E with nx := K } r) : dSeq t u xc E r := h _ rfl
end Dl
/-! Dl8: loops and comprehensions in the forms one uses. -/
namespace Dl
open PySem PySem.Spec PyProof.Rows L2
theorem take_snoc {α : Type} {l : List α} {i : Nat} {x : α} (h : l[i]? = some x) : l.take (i + 1) = l.take i ++ [x] := by
  rw [List.take_add_one, h]
  rfl
theorem small_sz {n : Nat} (h : n ≤ 100000) : n ≤ sizeLine := Nat.le_trans h (by decide)
theorem small_lt {n : Nat} (h : n ≤ 100000) : n < sizeLine := Nat.lt_of_le_of_lt h (by decide)
section
variable {tg : DG} {elt : DE} {cond : DT} {own : List Nat} {r : DEnv} {P : Val → Prop} {items : List D}
/-- [f(x) for x in items] -/
theorem lc_map (f : D → D) (hl : items.length ≤ 100000) (turn : ∀ x ∈ items, ∀ R : D → Prop, R (f x) → tg x (wp r own) fun r2 => elt X0 r2 fun y => asD R y) (fin : P (.tmp (.lst (items.map f)))) : Lc tg dYes elt own r P items := by
  refine ⟨fun i acc => acc = (items.take i).map f, rfl, fun i x acc hx hi => ?_, fun acc hi => by rw [hi, List.take_length]; exact fin⟩
  subst hi
  have q := turn x (List.mem_of_getElem? hx) (fun d => ((items.take i).map f).length < sizeLine ∧ ((items.take i).map f) ++ [d] = (items.take (i + 1)).map f) ⟨small_lt (by
    rw [List.length_map, List.length_take]
    omega), by rw [take_snoc hx, List.map_append]; rfl⟩
  exact q
/-- [.. for x in items], each of the things made in Q with its item -/
theorem lc_rel (Q : D → D → Prop) (hl : items.length ≤ 100000) (turn : ∀ x ∈ items, ∀ R : D → Prop, (∀ d, Q x d → R d) → tg x (wp r own) fun r2 => elt X0 r2 fun y => asD R y)
    (fin : ∀ acc : List D, acc.length = items.length → (∀ (i : Nat) (x d : D), items[i]? = some x → acc[i]? = some d → Q x d) → P (.tmp (.lst acc))) : Lc tg dYes elt own r P items := by
  refine ⟨fun i acc => acc.length = i ∧ i ≤ items.length ∧ ∀ (j : Nat) (x d : D), items[j]? = some x → acc[j]? = some d → Q x d, ⟨rfl, Nat.zero_le _, fun j x d _ h => by simp at h⟩, fun i x acc hx hi => ?_, fun acc hi => fin acc hi.1 hi.2.2⟩
  obtain ⟨h1, h2, h3⟩ := hi
  have hlt : i < items.length := (List.getElem?_eq_some_iff.mp hx).1
  have q := turn x (List.mem_of_getElem? hx) (fun d => acc.length < sizeLine ∧ (acc ++ [d]).length = i + 1 ∧ i + 1 ≤ items.length ∧ ∀ (j : Nat) (y e : D), items[j]? = some y → (acc ++ [d])[j]? = some e → Q y e) fun d hd => ⟨small_lt (by omega), by rw [List.length_append, h1]; rfl, hlt, fun j y e hy he => by
    rcases Nat.lt_or_ge j acc.length with z | z
    · rw [List.getElem?_append_left z] at he
      exact h3 j y e hy he
    · rw [List.getElem?_append_right z] at he
      have e0 : j - acc.length = 0 := by
        cases q : j - acc.length with
        | zero => rfl
        | succ n => rw [q] at he; cases he
      have ej : j = i := by omega
      subst ej
      rw [e0] at he
      cases he
      rw [hx] at hy
      cases hy
      exact hd⟩
  exact q
/-- [f(x) for x in items if c(x)] -/
theorem lc_filter (c : D → Bool) (f : D → D) (hl : items.length ≤ 100000)
    (turn : ∀ x ∈ items, ∀ (Rt : D → Prop) (Rf : Prop), (c x = true → Rt (f x)) → (c x = false → Rf) → tg x (wp r own) fun r2 => cond X0 r2 fun b => ifB b (elt X0 r2 fun y => asD Rt y) Rf)
    (fin : P (.tmp (.lst ((items.filter c).map f)))) : Lc tg cond elt own r P items := by
  refine ⟨fun i acc => acc = ((items.take i).filter c).map f, rfl, fun i x acc hx hi => ?_, fun acc hi => by rw [hi, List.take_length]; exact fin⟩
  subst hi
  have len : (((items.take i).filter c).map f).length < sizeLine := small_lt (by
    have h1 := List.length_filter_le c (items.take i)
    rw [List.length_take] at h1
    rw [List.length_map]
    omega)
  refine turn x (List.mem_of_getElem? hx) _ _ (fun h => ⟨len, ?_⟩) (fun h => ?_)
  · show _ = ((items.take (i + 1)).filter c).map f
    rw [take_snoc hx, List.filter_append, List.map_append, List.filter_cons_of_pos h]
    rfl
  · show _ = ((items.take (i + 1)).filter c).map f
    rw [take_snoc hx, List.filter_append, List.filter_cons_of_neg (by rw [h]; exact Bool.false_ne_true)]
    simp
end
/-- [.. for x in items], each of the things made in Q -/
theorem lc_all {tg : DG} {elt : DE} {own : List Nat} {r : DEnv} {P : Val → Prop} {items : List D} (Q : D → Prop) (hl : items.length ≤ 100000) (turn : ∀ x ∈ items, ∀ R : D → Prop, (∀ d, Q d → R d) → tg x (wp r own) fun r2 => elt X0 r2 fun y => asD R y)
    (fin : ∀ acc : List D, acc.length = items.length → (∀ d ∈ acc, Q d) → P (.tmp (.lst acc))) : Lc tg dYes elt own r P items :=
  lc_rel (fun _ d => Q d) hl turn fun acc h1 h2 => fin acc h1 fun d hd => by
    obtain ⟨i, hi, e⟩ := List.getElem_of_mem hd
    exact h2 i items[i] d (List.getElem?_eq_getElem (by omega)) (by rw [List.getElem?_eq_getElem hi, e])
theorem mem_rng {lo : Int} {n : Nat} {x : D} (h : x ∈ rngD lo n) : ∃ i : Nat, i < n ∧ x = .int (lo + i) := by
  unfold rngD at h
  obtain ⟨i, hi, rfl⟩ := List.mem_map.mp h
  exact ⟨i, List.mem_range.mp hi, rfl⟩
theorem rng_length (lo : Int) (n : Nat) : (rngD lo n).length = n := by
  unfold rngD
  rw [List.length_map, List.length_range]
/-! ### texts -/
theorem len_app (a b : Str) : (a ++ b).length = a.length + b.length := by
  show (a.cps ++ b.cps).size = a.cps.size + b.cps.size
  exact Array.size_append
theorem joinL_nil : ∀ l : List (List Nat), TL.joinL [] l = l.flatten
  | [] => rfl
  | [p] => by simp [TL.joinL]
  | p :: q :: r => by
    show p ++ ([] ++ TL.joinL [] (q :: r)) = _
    rw [List.nil_append, joinL_nil (q :: r)]
    rfl
/-- signs put together -/
theorem join_chars (cs : List Nat) : (Txt.join "" (cs.map fun c => (⟨#[c]⟩ : Str))).cps.toList = cs := by
  show TL.tl _ = cs
  rw [TL.join_eq, TL.tl_join]
  show TL.joinL [] _ = cs
  rw [joinL_nil, List.map_map]
  induction cs with
  | nil => rfl
  | cons c r ih =>
    rw [List.map_cons, List.flatten_cons, ih]
    rfl
theorem inD_strs (s : Str) (l : List Str) : inD (.str s) (l.map D.str) = decide (s ∈ l) := by
  unfold inD inV
  rw [List.map_map, List.any_map]
  induction l with
  | nil => rfl
  | cons a r ih =>
    rw [List.any_cons, ih]
    show ((a == s) || decide (s ∈ r)) = decide (s ∈ a :: r)
    by_cases e : a = s
    · subst e
      simp
    · have e2 : ¬ s = a := fun z => e z.symm
      simp [e, e2]
/-- signs that may stand in a text -/
def okS (s : Str) : Prop := ∀ c ∈ s.cps.toList, c < 0x110000
theorem okS_strOk {s : Str} (h : okS s) : PyData.strOk s = true := by
  unfold PyData.strOk
  rw [← Array.all_toList]
  exact List.all_eq_true.mpr fun c hc => decide_eq_true (h c hc)
theorem app_toList (a b : Str) : (a ++ b).cps.toList = a.cps.toList ++ b.cps.toList := by
  show (a.cps ++ b.cps).toList = _
  exact Array.toList_append
theorem okS_app {a b : Str} (ha : okS a) (hb : okS b) : okS (a ++ b) := fun c hc => by
  rw [app_toList] at hc
  rcases List.mem_append.mp hc with h | h
  · exact ha c h
  · exact hb c h
theorem okS_cut {a : Str} (ha : okS a) (lo hi : Option Int) : okS (cutS a lo hi) := fun c hc => ha c (List.mem_of_mem_drop (List.mem_of_mem_take hc))
theorem okS_rev {a : Str} (ha : okS a) : okS (revS a) := fun c hc => ha c (List.mem_reverse.mp hc)
theorem okS_one {c : Nat} (h : c < 0x110000) : okS ⟨#[c]⟩ := fun d hd => by
  have e : d = c := by simpa using hd
  rw [e]
  exact h
theorem pyL_strs : ∀ l : List Str, pyL (l.map D.str) = l.map PyData.str
  | [] => rfl
  | s :: r => congrArg (PyData.str s :: ·) (pyL_strs r)
theorem okL_strs : ∀ l : List Str, okL (l.map D.str) = true
  | [] => rfl
  | s :: r => okL_strs r
theorem depth_strs : ∀ l : List Str, PyData.depthAll (l.map PyData.str) = 0
  | [] => rfl
  | s :: r => by
    show max 0 (PyData.depthAll (r.map PyData.str)) = 0
    rw [depth_strs r]
    rfl
theorem eqOk_strs {l : List Str} (h : ∀ s ∈ l, okS s) : eqOk (.lst (l.map D.str)) = true := by
  unfold eqOk SeqAt.shaped
  rw [Bool.and_eq_true, Bool.and_eq_true]
  refine ⟨okL_strs l, ?_, decide_eq_true ?_⟩
  · show PyData.canLayAll0 (pyL (l.map D.str)) = true
    rw [pyL_strs]
    rw [PyProof.Rows.canLayAll_strs']
    exact List.all_eq_true.mpr fun s hs => okS_strOk (h s hs)
  · show PyData.depthAll (pyL (l.map D.str)) + 1 ≤ 64
    rw [pyL_strs, depth_strs]
    decide
theorem eqOk_nil : eqOk (.lst []) = true := rfl
theorem eqd_nil (l : List D) : eqd (.lst l) (.lst []) = l.isEmpty := by
  cases l <;> rfl
theorem eqOk_bl (b : Bool) : eqOk (.bl b) = true := rfl
theorem eqd_bl (a b : Bool) : eqd (.bl a) (.bl b) = (a == b) := rfl
theorem flat_strs (l : List Str) : (l.map D.str).all flatD = true := by
  rw [List.all_map]
  exact List.all_eq_true.mpr fun _ _ => rfl
end Dl
/-! Dl9: zip of lists, tuples and texts in any mix. -/
namespace Dl
open PySem PySem.Spec PyProof.Rows L2
/-- what zip walks along -/
inductive Sk where
  | t (a : Addr) | l (a : Addr) | s (y : Str)
def Sk.v : Sk → V
  | .t a => .ref a
  | .l a => .ref a
  | .s y => .str y
def Sk.has (K : PySem.W.Frag) (H : Hp) : Sk → List V → Prop
  | .t a, xs => SqT K H a xs
  | .l a, xs => SqL K H a xs
  | .s y, xs => xs = y.cps.toList.map fun c => V.str ⟨#[c]⟩
def Sk.at_ (it : Addr) : Sk → Nat → Heap → Prop
  | .t a, i, h => h.IsTupleIter it a i
  | .l a, i, h => h.IsListIter it a i
  | .s y, i, h => ∃ t, h.IsStrIter it (strIterType y) y t i
def Sk.base : Sk → List Addr
  | .t a => [a]
  | .l a => [a]
  | .s _ => []
theorem Sk.at_keep {k : Sk} {it : Addr} {i : Nat} {h h' : Heap} (q : k.at_ it i h) (e : ∀ o, h.get? it = some o → h'.get? it = some o) : k.at_ it i h' := by
  cases k with
  | t a => exact Heap.IsTupleIter.at q e
  | l a => exact Heap.IsListIter.at q e
  | s y =>
    obtain ⟨t, o, ho, r⟩ := q
    exact ⟨t, o, e o ho, r⟩
theorem Sk.at_obj {k : Sk} {it : Addr} {i : Nat} {h : Heap} (q : k.at_ it i h) : ∃ o, h.get? it = some o ∧ ∀ v, o.data ≠ .cell v := by
  cases k with
  | t a =>
    obtain ⟨o, e, _, d⟩ := q
    exact ⟨o, e, fun v z => by rw [d] at z; cases z⟩
  | l a =>
    obtain ⟨o, e, _, d⟩ := q
    exact ⟨o, e, fun v z => by rw [d] at z; cases z⟩
  | s y =>
    obtain ⟨t, o, e, _, d⟩ := q
    exact ⟨o, e, fun v z => by rw [d] at z; cases z⟩
section
variable {X : Cx} {pins : List (Addr × Obj)} {σ : L2.St} {H : Hp} {s : Shared}
theorem getU {xs : List V} {us : List Value} (r : Vals xs us) {i : Nat} {u : Value} (h : us[i]? = some u) : ∃ x, xs[i]? = some x ∧ RelV x u := by
  have hl : i < xs.length := by rw [r.length]; exact (List.getElem?_eq_some_iff.mp h).1
  obtain ⟨u', h1, h2⟩ := r.get (List.getElem?_eq_getElem hl)
  rw [h] at h1
  cases h1
  exact ⟨_, List.getElem?_eq_getElem hl, h2⟩
theorem Sk.inj (I : Inv X pins σ H s) {k : Sk} {xs ys : List V} (h : k.has X.K H xs) (g : k.has X.K H ys) : xs = ys := by
  cases k with
  | t a => exact I.tuple_inj h g
  | l a => exact I.list_inj h g
  | s y => exact (show xs = _ from h).trans (show ys = _ from g).symm
theorem Sk.draws (I : Inv X pins σ H s) (hc : X.calm = true) {k : Sk} {xs : List V} (h : k.has X.K H xs) {it : Addr} {i : Nat} (hi : k.at_ it i s.heap) (hne : it ∉ k.base) :
    ∃ n P St, Draws X.prog X.w X.A.in1 it (it :: k.base) n P St ∧ n = xs.length ∧ St i s.heap ∧ (∀ i h, St i h → k.at_ it i h) ∧ ∀ i u, P i u → ∃ x, xs[i]? = some x ∧ RelV x u := by
  have hh : X.A.in1.handled = none := I.ok.hd hc
  cases k with
  | t a =>
    obtain ⟨its, rv, p, _⟩ := I.tuple h
    refine ⟨_, _, _, Draws.tuple hh it a (fun e => hne (by rw [e]; exact List.mem_singleton.mpr rfl)) its.toArray, ?_, ⟨hi, p⟩, fun i h q => q.1, fun i u hu => ?_⟩
    · rw [List.size_toArray, rv.length]
    · exact getU rv (by simpa using hu)
  | l a =>
    obtain ⟨its, rv, p, _⟩ := I.list h
    refine ⟨_, _, _, Draws.list hh it a (fun e => hne (by rw [e]; exact List.mem_singleton.mpr rfl)) its.toArray, ?_, ⟨hi, p.isList⟩, fun i h q => q.1, fun i u hu => ?_⟩
    · rw [List.size_toArray, rv.length]
    · exact getU rv (by simpa using hu)
  | s y =>
    obtain ⟨t, hi⟩ := hi
    have h : xs = _ := h
    subst h
    refine ⟨_, _, _, Draws.text hh it y t, ?_, hi, fun i h q => ⟨t, q⟩, fun i u hu => ?_⟩
    · rw [List.length_map, Array.length_toList]
    · obtain ⟨c, tk, e, rfl⟩ := hu
      refine ⟨.str ⟨#[c]⟩, ?_, ⟨tk, rfl⟩⟩
      rw [List.getElem?_map, Array.getElem?_toList, e]
      rfl
theorem Sk.begins (I : Inv X pins σ H s) {k : Sk} {xs : List V} (h : k.has X.K H xs) {u : Value} (r : RelV k.v u) :
    ∃ o Hh, Begins u o Hh ∧ Hh s.heap ∧ (∀ (h' : Heap) (it : Addr), h'.get? it = some o → k.at_ it 0 h') ∧ ∀ b ∈ k.base, b < s.heap.objs.size := by
  cases k with
  | t a =>
    cases r
    obtain ⟨its, rv, p, _⟩ := I.tuple h
    obtain ⟨o1, ho1, _⟩ := id p
    exact ⟨_, _, begins_tuple a its.toArray, p, fun h' it e => ⟨_, e, rfl, rfl⟩, fun b hb => by rw [List.mem_singleton.mp hb]; exact Heap.lt_size ho1⟩
  | l a =>
    cases r
    obtain ⟨its, rv, p, _⟩ := I.list h
    exact ⟨_, _, begins_list a its.toArray, p.isList, fun h' it e => ⟨_, e, rfl, rfl⟩, fun b hb => by rw [List.mem_singleton.mp hb]; exact p.lt⟩
  | s y =>
    obtain ⟨t, rfl⟩ := r
    exact ⟨_, _, begins_text y t, trivial, fun h' it e => ⟨t, _, e, rfl, rfl⟩, fun b hb => nomatch hb⟩
end
/-- zip of two, as they stand at each turn -/
def ItzS (K : PySem.W.Frag) (a b : Sk) : It :=
  ⟨fun i H => ∃ (xs ys : List V) (x y : V), a.has K H xs ∧ b.has K H ys ∧ xs[i]? = some x ∧ ys[i]? = some y,
    fun i H v H' => ∃ T x y, v = .ref T ∧ H T = none ∧ H' = upd H T (.tup [x, y]) ∧ (∀ xs, a.has K H xs → xs[i]? = some x) ∧ ∀ ys, b.has K H ys → ys[i]? = some y,
    fun i H => ∃ xs ys : List V, a.has K H xs ∧ b.has K H ys ∧ i ≤ xs.length ∧ i ≤ ys.length ∧ (i = xs.length ∨ i = ys.length)⟩
theorem turn_zipS {P : Program} {w : World} {K : PySem.W.Frag} {elts : List Expr} {kk : Nat} {tpos : Pos} {a b : Sk} {z TI TO i1 i2 : Addr} (S : ZipSep2 z TI TO i1 i2 (i1 :: a.base) (i2 :: b.base)) (n1 : i1 ∉ a.base) (n2 : i2 ∉ b.base) :
    Turn P w K (.Tuple elts kk tpos) (ItzS K a b) [z, TI, TO, i1, i2] z (fun i h => IsZip h z TI TO .none ∧ IsTupOf2 h TI (.ref i1) (.ref i2) ∧ (∃ x y, IsTupOf2 h TO x y) ∧ a.at_ i1 i h ∧ b.at_ i2 i h) where
  mem := by simp
  obj := fun i h st c hc => by
    obtain ⟨hz, hTI, ⟨x, y, hTO⟩, h1, h2⟩ := st
    have e' : c = z ∨ c = TI ∨ c = TO ∨ c = i1 ∨ c = i2 := by simpa using hc
    rcases e' with q | q | q | q | q
    · rw [q]; exact ⟨_, hz, fun v q => nomatch q⟩
    · rw [q]; exact ⟨_, hTI, fun v q => nomatch q⟩
    · rw [q]; exact ⟨_, hTO, fun v q => nomatch q⟩
    · rw [q]; exact (Sk.at_obj h1)
    · rw [q]; exact (Sk.at_obj h2)
  keep := fun i h h' st k => by
    obtain ⟨hz, hTI, ⟨x, y, hTO⟩, h1, h2⟩ := st
    exact ⟨k z (by simp) _ hz, k TI (by simp) _ hTI, ⟨x, y, k TO (by simp) _ hTO⟩, Sk.at_keep h1 fun o q => k i1 (by simp) o q, Sk.at_keep h2 fun o q => k i2 (by simp) o q⟩
  item := by
    intro X hP hw hK hc i pins s σ H E I hf st hg
    subst hP hw hK
    obtain ⟨hz, hTI, ⟨x0, y0, hTO⟩, h1, h2⟩ := st
    obtain ⟨xs, ys, x, y, hqx, hqy, hx, hy⟩ := hg
    obtain ⟨m1, P1, St1, D1, e1, st1, bk1, vl1⟩ := Sk.draws I hc hqx h1 n1
    obtain ⟨m2, P2, St2, D2, e2, st2, bk2, vl2⟩ := Sk.draws I hc hqy h2 n2
    subst e1 e2
    have hzl : z < s.heap.objs.size := Heap.lt_size hz
    refine wpAny_pyNext_zipD2_item S D1 D2 hz hTI hTO st1 st2 (List.getElem?_eq_some_iff.mp hx).1 (List.getElem?_eq_some_iff.mp hy).1 fun u u2 h' tk p1 p2 z' TO' h1' h2' hT hsz hk => ?_
    obtain ⟨x', hx', ru⟩ := vl1 i u p1
    obtain ⟨y', hy', ru2⟩ := vl2 i u2 p2
    rw [hx] at hx'
    cases hx'
    rw [hy] at hy'
    cases hy'
    refine ⟨_, rfl, wpAny_letOwnedTupleGo_zip (s := { s with heap := h', toks := tk }) z' fun h'' z'' sb => ?_⟩
    have hT2 : h''.get? s.heap.objs.size = some { cls := .type "tuple", data := .seq #[u, u2] } := (sb.2 _ (Nat.ne_of_gt hzl)).trans hT
    have new : ObjOk X.prog X.w (upd H s.heap.objs.size (.tup [x, y])) h'' s.heap.objs.size (.tup [x, y]) :=
      ⟨by show 2 ≤ sizeLine; decide, [u, u2], .cons ru (.cons ru2 .nil), ⟨_, hT2, rfl, _, rfl⟩⟩
    have I1 : Inv X pins σ (upd H s.heap.objs.size (.tup [x, y])) { s with heap := h'', toks := tk } :=
      I.turnedNew (t' := tk) (ch := [z, TI, TO, i1, i2]) (fun c o hb q => (sb.2 c (fun q' => hb (by simp [q']))).trans (hk c o (fun q' => hb (by simp [q'])) (fun q' => hb (by simp [q'])) (fun q' => hb (by simp [q'])) (fun q' => hb (by simp [q'])) q)) hf (Nat.le_refl _) new
    refine ⟨.ref s.heap.objs.size, _, I1, rfl, ⟨_, x, y, rfl, I.hok.fresh (Nat.le_refl _), rfl, fun l hl => by rw [Sk.inj I hl hqx]; exact hx, fun l hl => by rw [Sk.inj I hl hqy]; exact hy⟩, ⟨z'', ?_, ⟨u, u2, ?_⟩, ?_, ?_⟩, fun c hcm => ?_⟩
    · exact (sb.2 _ S.TIz).trans (hk _ _ S.TIz S.TITO S.TIi1 S.TIi2 hTI)
    · exact (sb.2 _ S.TOz).trans TO'
    · exact Sk.at_keep (bk1 _ _ h1') fun o q => (sb.2 _ (fun e => S.zi1 e.symm)).trans q
    · exact Sk.at_keep (bk2 _ _ h2') fun o q => (sb.2 _ (fun e => S.zi2 e.symm)).trans q
    · have hlt : c < s.heap.objs.size := by
        have e' : c = z ∨ c = TI ∨ c = TO ∨ c = i1 ∨ c = i2 := by simpa using hcm
        rcases e' with q | q | q | q | q
        · rw [q]; exact hzl
        · rw [q]; exact Heap.lt_size hTI
        · rw [q]; exact Heap.lt_size hTO
        · rw [q]; obtain ⟨_, e1, _⟩ := (Sk.at_obj h1); exact Heap.lt_size e1
        · rw [q]; obtain ⟨_, e2, _⟩ := (Sk.at_obj h2); exact Heap.lt_size e2
      rw [upd_ne (Nat.ne_of_lt hlt)]
      exact (hf c hcm).1
  done := by
    intro X hP hw hK hc i pins s σ H E I hf st hg
    subst hP hw hK
    obtain ⟨hz, hTI, ⟨x0, y0, hTO⟩, h1, h2⟩ := st
    obtain ⟨xs, ys, hqx, hqy, le1, le2, hend⟩ := hg
    obtain ⟨m1, P1, St1, D1, e1, st1, bk1, vl1⟩ := Sk.draws I hc hqx h1 n1
    obtain ⟨m2, P2, St2, D2, e2, st2, bk2, vl2⟩ := Sk.draws I hc hqy h2 n2
    subst e1 e2
    exact wpAny_pyNext_zipD2_end S D1 D2 hz hTI hTO st1 st2 le1 le2 hend fun h' tk hk => ⟨rfl, I.turnedL (t' := tk) (ch := [z, TI, TO, i1, i2]) (fun c o hb q =>
      hk c o (fun q' => hb (by simp [q'])) (fun q' => hb (by simp [q'])) (fun q' => hb (by simp [q'])) (fun q' => hb (by simp [q'])) q) hf⟩
  self := fun A i s Q E st h => wpAny_pyIter_zip st.1 h
def iZipS (K : PySem.W.Frag) (ta : TA) : TI := fun σ H R => ta σ H fun vs H1 => ∃ (a b : Sk) (xs ys : List V), vs = [a.v, b.v] ∧ a.has K H1 xs ∧ b.has K H1 ys ∧ R (ItzS K a b) H1
theorem zip_sep {n : Nat} {p q : List Addr} (hp : ∀ b ∈ p, b < n) (hq : ∀ b ∈ q, b < n) : ZipSep2 (n + 4) (n + 2) (n + 3) n (n + 1) (n :: p) ((n + 1) :: q) where
  TIz := by show n + 2 ≠ n + 4; omega
  TOz := by show n + 3 ≠ n + 4; omega
  TITO := by show n + 2 ≠ n + 3; omega
  TIi1 := by show n + 2 ≠ n; omega
  mem1 := List.mem_cons_self ..
  zf1 := fun h => by
    rcases List.mem_cons.mp h with e | e
    · have : n + 4 = n := e; omega
    · have := hp _ e; have : n + 4 < n := this; omega
  Tf1 := fun h => by
    rcases List.mem_cons.mp h with e | e
    · have : n + 3 = n := e; omega
    · have := hp _ e; have : n + 3 < n := this; omega
  TIi2 := by show n + 2 ≠ n + 1; omega
  mem2 := List.mem_cons_self ..
  zf2 := fun h => by
    rcases List.mem_cons.mp h with e | e
    · have : n + 4 = n + 1 := e; omega
    · have := hq _ e; have : n + 4 < n := this; omega
  Tf2 := fun h => by
    rcases List.mem_cons.mp h with e | e
    · have : n + 3 = n + 1 := e; omega
    · have := hq _ e; have : n + 3 < n := this; omega
  sep1_2 := fun h => by
    rcases List.mem_cons.mp h with e | e
    · have : n = n + 1 := e; omega
    · have := hq _ e; have : n < n := this; omega
  sep2_1 := fun h => by
    rcases List.mem_cons.mp h with e | e
    · have : n + 1 = n := e; omega
    · have := hp _ e; have : n + 1 < n := this; omega
theorem pi_zipS {X : Cx} {e e2 : Expr} {ta : TA} {p pos tpos : Pos} {elts : List Expr} {kk : Nat} (hg : Gl X "zip") (hm : X.mg "zip" = none) (ha : PA X [e, e2] ta)
    (hs : starEach [e, e2] X.env = (false, eval e X.env) :: starEach [e2] X.env := by rfl) (hpl : (backTo pos (starEach [e2] X.env)).any (·.1) = false := by rfl) :
    PI X (.Tuple elts kk tpos) (.Call (.Name "zip" p) [e, e2] [] pos) (iZipS X.K ta) := by
  refine ⟨fun pins s σ H R I h => ?_⟩
  refine Call_ (ld_blt I hg hm PyProof.Rows.boot_zip (PyProof.Rows.callWith_type1 (thn (ha.run pos pins s σ H _ I h) fun us s1 ⟨vs, H1, I1, r1, q1⟩ => ?_) hs hpl))
  obtain ⟨a, b, xs, ys, ex, hqx, hqy, q⟩ := q1
  subst ex
  cases r1 with
  | cons r rr =>
    cases rr with
    | cons r' rr =>
      cases rr
      have fresh5 : ∀ c, c ∈ [s1.heap.objs.size + 4, s1.heap.objs.size + 2, s1.heap.objs.size + 3, s1.heap.objs.size, s1.heap.objs.size + 1] → FpOk X pins H1 c := fun c hcm => by
        have e' : c = s1.heap.objs.size + 4 ∨ c = s1.heap.objs.size + 2 ∨ c = s1.heap.objs.size + 3 ∨ c = s1.heap.objs.size ∨ c = s1.heap.objs.size + 1 := by simpa using hcm
        have hle : s1.heap.objs.size ≤ c := by
          rcases e' with z | z | z | z | z
          · rw [z]; exact Nat.le_add_right _ _
          · rw [z]; exact Nat.le_add_right _ _
          · rw [z]; exact Nat.le_add_right _ _
          · rw [z]; exact Nat.le_refl _
          · rw [z]; exact Nat.le_add_right _ _
        exact I1.fpOk hle (I1.hok.fresh hle)
      obtain ⟨o1, G1, B1, g1, at1, lt1⟩ := Sk.begins I1 hqx r
      obtain ⟨o2, G2, B2, g2, at2, lt2⟩ := Sk.begins I1 hqy r'
      refine zip_begins2 B1 B2 g1 g2 fun h' hz hTI hTO h1 h2 hsz hk => wpAny_pyIter_zip hz ?_
      have I2 : Inv X pins σ H1 { s1 with heap := h' } := I1.kept (t' := s1.toks) hk
      exact ⟨s1.heap.objs.size + 4, [s1.heap.objs.size + 4, s1.heap.objs.size + 2, s1.heap.objs.size + 3, s1.heap.objs.size, s1.heap.objs.size + 1], _, _, H1, rfl, I2,
        turn_zipS (zip_sep lt1 lt2) (fun h => Nat.lt_irrefl _ (lt1 _ h)) (fun h => absurd (lt2 _ h) (Nat.not_lt.mpr (Nat.le_add_right _ 1))), ⟨hz, hTI, ⟨_, _, hTO⟩, at1 _ _ h1, at2 _ _ h2⟩, fresh5, q⟩
/-- the things of a list, a tuple, a text -/
def itD : D → Option (List D)
  | .tup l => some l
  | .lst l => some l
  | .scr l => some (l.map D.int)
  | .str z => some (z.cps.toList.map fun c => .str ⟨#[c]⟩)
  | _ => none
def pair2 (p : D × D) : D := .tup [p.1, p.2]
def dZip (da : DA) : DI := fun xc r P => da xc r fun ds => match ds with
  | [x, y] => onO (itD x) fun a => onO (itD y) fun b => P ((a.zip b).map pair2)
  | _ => False
theorem sk_of {K : PySem.W.Frag} {B : Hp} {v : V} {d : D} {l : List D} (r : Rep K B v d) (e : itD d = some l) : ∃ k : Sk, v = k.v ∧ ∃ vs, (∀ H, Kp B H → k.has K H vs) ∧ RepL K B vs l := by
  cases r with
  | tup h rl => cases e; exact ⟨.t _, rfl, _, fun H k => kp_t k h, rl⟩
  | lst h rl => cases e; exact ⟨.l _, rfl, _, fun H k => .inl (.inl ((k _ _ h).1 DrawO.lst)), rl⟩
  | scr h => cases e; exact ⟨.l _, rfl, _, fun H k => kp_l k h, RepL.ints _⟩
  | str y =>
    cases e
    refine ⟨.s y, rfl, _, fun H k => rfl, ?_⟩
    have g : ∀ cs : List Nat, RepL K B (cs.map fun c => V.str ⟨#[c]⟩) (cs.map fun c => D.str ⟨#[c]⟩) := by
      intro cs
      induction cs with
      | nil => exact .nil
      | cons c cs ih => exact .cons (.str _) ih
    exact g _
  | _ => cases e
theorem zip_get {α β : Type} : ∀ (xs : List α) (ys : List β) (i : Nat) (p : α × β), (xs.zip ys)[i]? = some p → xs[i]? = some p.1 ∧ ys[i]? = some p.2
  | [], _, i, p, h => by simp at h
  | _ :: _, [], i, p, h => by simp at h
  | x :: xs, y :: ys, 0, p, h => by
    simp at h
    subst h
    exact ⟨rfl, rfl⟩
  | x :: xs, y :: ys, i + 1, p, h => by
    have := zip_get xs ys i p (by simpa using h)
    simpa using this
section
variable {X : Cx} {W : WX}
theorem qi_zip {e e2 : Expr} {da : DA} {p pos tpos : Pos} {elts : List Expr} {kk : Nat} (hg : Gl X "zip") (hm : X.mg "zip" = none) (ha : PA X [e, e2] (LA X.K W da))
    (hs : starEach [e, e2] X.env = (false, eval e X.env) :: starEach [e2] X.env := by rfl) (hpl : (backTo pos (starEach [e2] X.env)).any (·.1) = false := by rfl) :
    PI X (.Tuple elts kk tpos) (.Call (.Name "zip" p) [e, e2] [] pos) (LI X.K W (dZip da)) := by
  refine imI (pi_zipS hg hm ha hs hpl) fun s H R ⟨B, r, xc, P, k, en, h, hx, hq⟩ => ⟨B, r, xc, _, k, en, h, hx, fun vs ds H1 B1 z rl q => ?_⟩
  split at q
  · rename_i dx dy
    obtain ⟨a, ea, q⟩ := onO_elim q
    obtain ⟨b, eb, q⟩ := onO_elim q
    cases rl with
    | cons rx rl =>
      cases rl with
      | cons ry rl =>
        cases rl
        obtain ⟨k1, e1, v1, h1, r1⟩ := sk_of rx ea
        obtain ⟨k2, e2, v2, h2, r2⟩ := sk_of ry eb
        subst e1 e2
        refine ⟨k1, k2, v1, v2, rfl, h1 _ z.sub, h2 _ z.sub, hq _ _ H1 B1 (fun _ => False) z (fun _ w => w.elim) ?_ q⟩
        intro B2 H2 i kb kh _
        have g1 := h1 H2 (kb.trans kh)
        have g2 := h2 H2 (kb.trans kh)
        have l1 := r1.length
        have l2 := r2.length
        refine ⟨fun d hd => ?_, fun hle => ?_⟩
        · rw [List.getElem?_map] at hd
          obtain ⟨pr, hp, e⟩ := Option.map_eq_some_iff.mp hd
          subst e
          obtain ⟨ha, hb⟩ := zip_get _ _ _ _ hp
          obtain ⟨x, hx, rx2⟩ := r1.get ha
          obtain ⟨y, hy, ry2⟩ := r2.get hb
          refine ⟨⟨v1, v2, x, y, g1, g2, hx, hy⟩, fun v H3 yl => ?_⟩
          obtain ⟨T, x', y', rfl, hT, rfl, f1, f2⟩ := yl
          have fx := f1 v1 g1
          have fy := f2 v2 g2
          rw [hx] at fx
          cases fx
          rw [hy] at fy
          cases fy
          refine ⟨_, .new kh hT, .tup (.inl (.inl upd_same)) (.cons (rx2.mono (kb.trans (Kp.new (kh.none hT)))) (.cons (ry2.mono (kb.trans (Kp.new (kh.none hT)))) .nil))⟩
        · rw [List.length_map, List.length_zip] at hle
          exact ⟨v1, v2, g1, g2, by omega, by omega, by omega⟩
  · exact q.elim
end
end Dl
/-! Dl10: dicts read and written, items stored, == with an empty thing. -/
namespace Dl
open PySem PySem.Spec PyProof.Rows L2
section
variable {X : Cx} {W : WX}
/-! ### d.get(k), d.get(k, x) -/
def asDic (P : List (Key × D) → Prop) : D → Prop
  | .dic l => P l
  | _ => False
theorem asDic_elim {P : List (Key × D) → Prop} {d : D} (h : asDic P d) : ∃ b, d = .dic b ∧ P b := by
  cases d <;> first | exact ⟨_, rfl, h⟩ | exact h.elim
/-- the value, else y -/
def getP (o : Option D) (y : Val) (P : Val → Prop) : Prop := match o with
  | some d => P (.dat d)
  | none => P y
def dGet2 (dd dk de : DE) : DE := fun xc r P => dd xc r fun x => asDic (fun kds => dk xc r fun k => de xc r fun y => onO (keyD k.d) fun q => getP (valD kds q) y P) x.d
def dGet1 (dd dk : DE) : DE := fun xc r P => dd xc r fun x => asDic (fun kds => dk xc r fun k => onO (keyD k.d) fun q => getP (valD kds q) (.dat .non) P) x.d
theorem rv_dic_same {K : PySem.W.Frag} {B H : Hp} {a : Addr} {x : Val} {ds : List (Key × D)} (k : Kp B H) (r : RepV K B H (.ref a) x) (e : x.d = .dic ds) : ∃ kvs, H a = some (.dK kvs) ∧ RepK K B kvs ds := by
  obtain ⟨b, kvs, e2, h, r⟩ := rv_dic k r e
  cases e2
  exact ⟨kvs, h, r⟩
theorem q_dget2 {o e f : Expr} {apos cpos : Pos} {dd dk de : DE} {f1 f2 : Bool} (hu : X.A.units + 1 < cLine) (ho : PE X o (L X.K W f1 dd)) (he : PE X e (L X.K W f2 dk)) (hf : PE X f (L X.K W true de)) (m : M2 X o "get" apos e f cpos) :
    PE X (.Call (.Attribute o "get" apos) [e, f] [] cpos) (L X.K W true (dGet2 dd dk de)) := by
  refine imE (pe_dget2 hu ho he hf m) fun s H Q ⟨B, r, xc, P, k, en, h, hx, hq⟩ => ⟨B, r, xc, _, k, en, h, hx, fun x vx H1 B1 z1 rx _ q1 => ?_⟩
  obtain ⟨kds, ed, q1⟩ := asDic_elim q1
  obtain ⟨a, kvs, rfl, hv, rk⟩ := rv_dic z1.sub rx ed
  refine ⟨a, rfl, .inl ⟨kvs, .inl hv⟩, B1, r, xc, _, z1.sub, en.step z1, q1, fun cls d e H' B' st => hx cls d e H' B' (z1.trans st), fun y vy H2 B2 z2 ry _ q2 => ?_⟩
  have z12 := z1.trans z2
  refine ⟨B2, r, xc, _, z2.sub, en.step z12, q2, fun cls d e H' B' st => hx cls d e H' B' (z12.trans st), fun w vw H3 B3 z3 rw_ fw q3 => ?_⟩
  have z := z12.trans z3
  obtain ⟨q, ek, q3⟩ := onO_elim q3
  have ey := key_v (ry.step z3) ek
  subst ey
  obtain ⟨kvs3, hv3, rk3⟩ := rv_dic_same z3.sub ((rx.step z2).step z3) ed
  unfold getP at q3
  cases ev : valD kds q with
  | some d =>
    rw [ev] at q3
    obtain ⟨v, e1, r1⟩ := rk3.val ev
    exact ⟨some v, by rw [← e1]; exact DGet.k hv3, hq v (.dat d) H3 B3 z r1 (fun _ => Fr.dat) q3⟩
  | none =>
    rw [ev] at q3
    exact ⟨none, by rw [← rk3.val_none ev]; exact DGet.k hv3, hq w vw H3 B3 z rw_ (fun _ => ((fw rfl).back z2).back z1) q3⟩
theorem q_dget1 {o e : Expr} {apos cpos : Pos} {dd dk : DE} {f1 f2 : Bool} (hu : X.A.units + 1 < cLine) (ho : PE X o (L X.K W f1 dd)) (he : PE X e (L X.K W f2 dk)) (m : M1 X o "get" apos e cpos) :
    PE X (.Call (.Attribute o "get" apos) [e] [] cpos) (L X.K W true (dGet1 dd dk)) := by
  refine imE (pe_dget1 hu ho he m) fun s H Q ⟨B, r, xc, P, k, en, h, hx, hq⟩ => ⟨B, r, xc, _, k, en, h, hx, fun x vx H1 B1 z1 rx _ q1 => ?_⟩
  obtain ⟨kds, ed, q1⟩ := asDic_elim q1
  obtain ⟨a, kvs, rfl, hv, rk⟩ := rv_dic z1.sub rx ed
  refine ⟨a, rfl, .inl ⟨kvs, .inl hv⟩, B1, r, xc, _, z1.sub, en.step z1, q1, fun cls d e H' B' st => hx cls d e H' B' (z1.trans st), fun y vy H2 B2 z2 ry _ q2 => ?_⟩
  have z := z1.trans z2
  obtain ⟨q, ek, q3⟩ := onO_elim q2
  have ey := key_v ry ek
  subst ey
  obtain ⟨kvs3, hv3, rk3⟩ := rv_dic_same z2.sub (rx.step z2) ed
  unfold getP at q3
  cases ev : valD kds q with
  | some d =>
    rw [ev] at q3
    obtain ⟨v, e1, r1⟩ := rk3.val ev
    exact ⟨some v, by rw [← e1]; exact DGet.k hv3, hq v (.dat d) H2 B2 z r1 (fun _ => Fr.dat) q3⟩
  | none =>
    rw [ev] at q3
    exact ⟨none, by rw [← rk3.val_none ev]; exact DGet.k hv3, hq _ (.dat .non) H2 B2 z .non (fun _ => Fr.dat) q3⟩
theorem m2_of {o e f : Expr} {m : Str} {apos cpos : Pos} (base : attributeBase o m X.env (eval o X.env) = eval o X.env := by rfl)
    (few : ((backTo cpos (starEach [e, f] X.env)).all (fun x => !x.1) && (backToKw cpos (keywordEach [] X.env)).all (fun x => x.1.isSome) && decide (([e, f] : List Expr).length + ([] : List Keyword).length + (if ([] : List Keyword).isEmpty then 0 else 1) < 30)) = true := by rfl)
    (line : (apos.endLine == cpos.line) = true := by rfl) (trees : backTo cpos (starEach [e, f] X.env) = [(false, eval e X.env), (false, eval f X.env)] := by rfl) : M2 X o m apos e f cpos := ⟨base, few, line, trees⟩
theorem m1_of {o e : Expr} {m : Str} {apos cpos : Pos} (base : attributeBase o m X.env (eval o X.env) = eval o X.env := by rfl)
    (few : ((backTo cpos (starEach [e] X.env)).all (fun x => !x.1) && (backToKw cpos (keywordEach [] X.env)).all (fun x => x.1.isSome) && decide (([e] : List Expr).length + ([] : List Keyword).length + (if ([] : List Keyword).isEmpty then 0 else 1) < 30)) = true := by rfl)
    (line : (apos.endLine == cpos.line) = true := by rfl) (trees : backTo cpos (starEach [e] X.env) = [(false, eval e X.env)] := by rfl) : M1 X o m apos e cpos := ⟨base, few, line, trees⟩
/-! ### a written dict of texts: C[k], C.get(k, x), k in C -/
/-- the dict's rows -/
def tabV (tbl : List (Str × D)) (z : Str) : Option D := (tbl.find? fun kv => decide (kv.1 = z)).map (·.2)
def entOk (u : Value) (d : D) : Bool := match u, d with
  | .int i _, .int j => i == j
  | .str x _, .str y => x == y
  | .bool x, .bl y => x == y
  | .none, .non => true
  | _, _ => false
def keyOk (u : Value) (k : Str) : Bool := match u with
  | .str x _ => x == k
  | _ => false
def entsOk : List DictEntry → List (Str × D) → Bool
  | [], [] => true
  | e :: es, (k, d) :: r => keyOk e.key k && entOk e.val d && entsOk es r
  | _, _ => false
theorem keyOk_str {u : Value} {k : Str} (h : keyOk u k = true) : ∃ t, u = .str k t := by
  unfold keyOk at h
  split at h
  · rename_i x t
    have e : x = k := by simpa using h
    subst e
    exact ⟨t, rfl⟩
  · cases h
structure KTab (K : PySem.W.Frag) (w : World) (a : Addr) (tbl : List (Str × D)) : Prop where
  ex : ∃ es n, K.lookup a = some ⟨.type "dict", none, .dict es n, #[]⟩ ∧ PySem.W.KeysLit w.params es.toList ∧ entsOk es.toList tbl = true
  low : (a == sysModules) = false
theorem entOk_flat {u : Value} {d : D} (h : entOk u d = true) : flatD d = true ∧ RelV (dV d) u := by
  unfold entOk at h
  split at h
  · rename_i i t j
    have e : i = j := by simpa using h
    subst e
    exact ⟨rfl, _, rfl⟩
  · rename_i i t j
    have e : i = j := by simpa using h
    subst e
    exact ⟨rfl, _, rfl⟩
  · rename_i i j
    have e : i = j := by simpa using h
    subst e
    exact ⟨rfl, rfl⟩
  · exact ⟨rfl, rfl⟩
  · cases h
theorem ents_find {z : Str} : ∀ {es : List DictEntry} {tbl : List (Str × D)}, entsOk es tbl = true → (match tabV tbl z with
  | some d => ∃ e, es.find? (fun d => Value.isStrOf z d.key) = some e ∧ entOk e.val d = true
  | none => es.find? (fun d => Value.isStrOf z d.key) = none)
  | [], [], _ => rfl
  | [], _ :: _, h => nomatch h
  | _ :: _, [], h => nomatch h
  | e :: es, (k, d) :: r, h => by
    unfold entsOk at h
    obtain ⟨h1, hr⟩ := Bool.and_eq_true_iff.mp h
    obtain ⟨hk, hv⟩ := Bool.and_eq_true_iff.mp h1
    obtain ⟨t, hk⟩ := keyOk_str hk
    have ih := ents_find (z := z) hr
    by_cases c : k = z
    · subst c
      have e1 : tabV ((k, d) :: r) k = some d := by simp [tabV]
      rw [e1]
      refine ⟨e, ?_, hv⟩
      rw [List.find?_cons, hk]
      have : Value.isStrOf k (.str k t) = true := by simp [Value.isStrOf]
      rw [this]
    · have e1 : tabV ((k, d) :: r) z = tabV r z := by simp [tabV, List.find?_cons, c]
      rw [e1]
      have e2 : (e :: es).find? (fun d => Value.isStrOf z d.key) = es.find? (fun d => Value.isStrOf z d.key) := by
        rw [List.find?_cons, hk]
        have : Value.isStrOf z (.str k t) = false := by simp [Value.isStrOf, c]
        rw [this]
      rw [e2]
      exact ih
theorem KTab.find {tbl : List (Str × D)} {es : Array DictEntry} (h : entsOk es.toList tbl = true) (z : Str) : (match tabV tbl z with
  | some d => ∃ u, findBy Value.isStrOf es z = some u ∧ entOk u d = true
  | none => findBy Value.isStrOf es z = none) := by
  have q := ents_find (z := z) h
  obtain ⟨l⟩ := es
  unfold findBy
  cases e : tabV tbl z with
  | some d =>
    rw [e] at q
    obtain ⟨en, h1, h2⟩ := q
    refine ⟨en.val, ?_, h2⟩
    rw [List.find?_toArray]
    rw [show l.find? (fun d => Value.isStrOf z d.key) = some en from h1]
    rfl
  | none =>
    rw [e] at q
    show Option.map _ (Array.find? _ _) = none
    rw [List.find?_toArray]
    rw [show l.find? (fun d => Value.isStrOf z d.key) = none from q]
    rfl
def dKGet (tbl : List (Str × D)) (dk de : DE) : DE := fun xc r P => dk xc r fun k => de xc r fun y => asS (fun z => getP (tabV tbl z) y P) k.d
theorem q_kget {x : Str} {e f : Expr} {p apos cpos : Pos} {a : Addr} {tbl : List (Str × D)} {dk de : DE} {f2 : Bool} (T : KTab X.K X.w a tbl) (hg : Gl X x) (hm : X.mg x = some (.ref a)) (he : PE X e (L X.K W f2 dk)) (hf : PE X f (L X.K W true de))
    (m : M2 X (.Name x p) "get" apos e f cpos) (hd : (x == ("__debug__" : Str)) = false := by decide) : PE X (.Call (.Attribute (.Name x p) "get" apos) [e, f] [] cpos) (L X.K W true (dKGet tbl dk de)) := by
  obtain ⟨⟨es, n, hl, hk, hen⟩, low⟩ := T
  refine ⟨fun pins s σ H Q I ⟨B, r, xc, P, k, en, h, hx, hq⟩ => ?_⟩
  refine wpAny_Call_method m.base m.few m.line PySem.F.plainAttrs_dict PySem.F.slot_dict_get PySem.F.type_dict_get (thn ((pe_glob (v := .ref a) hg hm rfl hd).run pins s σ H (fun v H' => v = .ref a ∧ H' = H) I ⟨rfl, rfl⟩) fun u s1 ⟨x, H1, I1, rx, ex, eh⟩ => ?_)
  subst ex eh
  obtain rfl : u = Value.ref a := rx
  have hm1 := PySem.W.mapOf_K (prog := X.prog) (w := X.w) I1.kIn hl hk
  refine ⟨hm1.typeIs, fun b q => ?_, ?_⟩
  · cases q
    exact ⟨_, I1.kIn _ _ hl, rfl⟩
  rw [m.trees]
  refine Calls.callWith_builtin rfl (Calls.evalArgs_plain (Calls.spliced_cons (thn (he.run pins s1 σ H1 (fun y H2 => ∃ B2 vy, Step B H1 B2 H2 ∧ RepV X.K B2 H2 y vy ∧ de xc r fun w => asS (fun z => getP (tabV tbl z) w P) vy.d) I1 ⟨B, r, xc, _, k, en, h, hx, fun y vy H2 B2 z2 ry _ q2 => ⟨B2, vy, z2, ry, q2⟩⟩) fun iv s2 ⟨y, H2, I2, ry, B2, vy, z2, ryv, q2⟩ => ?_)))
  refine Calls.spliced_cons (thn (hf.run pins s2 σ H2 (fun w H3 => ∃ B3 vw, Step B2 H2 B3 H3 ∧ RepV X.K B3 H3 w vw ∧ Fr H2 w vw ∧ asS (fun z => getP (tabV tbl z) vw P) vy.d) I2 ⟨B2, r, xc, _, z2.sub, en.step z2, q2, fun cls d e H' B' st => hx cls d e H' B' (z2.trans st), fun w vw H3 B3 z3 rw_ fw q3 => ⟨B3, vw, z3, rw_, fw rfl, q3⟩⟩) fun fv s3 ⟨w, H3, I3, rz, B3, vw, z3, rww, fw, q3⟩ => Calls.spliced_nil ?_)
  obtain ⟨z, ez, q3⟩ := asS_elim q3
  have ey := rv_str ryv ez
  subst ey
  obtain ⟨t, rfl⟩ := ry
  have hm3 := PySem.W.mapOf_K (prog := X.prog) (w := X.w) I3.kIn hl hk
  have hz := z2.trans z3
  refine call_meetsIn PySem.F.slot_dict_get hm3.typeIs PySem.F.entry_dict_get (PySem.F.args_dict_get_3 _ _ _) (meets_dict_get_default (strKind X.prog X.w) a (strKind_is X.prog X.w z t) low fv) ⟨_, hm3, ?_⟩
  have fd := KTab.find hen z
  unfold getP at q3
  cases ev : tabV tbl z with
  | some d =>
    rw [ev] at q3 fd
    obtain ⟨u, h1, h2⟩ := fd
    obtain ⟨h3, h4⟩ := entOk_flat h2
    rw [show findBy Value.isStrOf es z = some u from h1]
    exact ⟨_, H3, I3.tok _, h4, hq _ (.dat d) H3 B3 hz (rep_flat h3) (fun _ => Fr.dat) q3⟩
  | none =>
    rw [ev] at q3 fd
    rw [show findBy Value.isStrOf es z = none from fd]
    exact ⟨_, H3, I3.tok _, rz, hq _ vw H3 B3 hz rww (fun _ => fw.back z2) q3⟩
/-! ### d.update(e) -/
def rUpdate : V → List V → Hp → VK → Prop := fun x vs H Q => ∃ d o kvs more, x = .ref d ∧ vs = [.ref o] ∧ H d = some (.dK kvs) ∧ H o = some (.dK more) ∧ d ≠ o ∧ kvs.length + more.length ≤ sizeLine ∧ Q .non (upd H d (.dK (mergeK kvs more)))
theorem len_merge : ∀ (more kvs : List (Key × V)), (mergeK kvs more).length ≤ kvs.length + more.length
  | [], kvs => by show kvs.length ≤ _; omega
  | p :: more, kvs => by
    have h := len_merge more (putK kvs p.1 p.2)
    have h2 := length_putK kvs p.1 p.2
    show (mergeK (putK kvs p.1 p.2) more).length ≤ _
    rw [List.length_cons]
    omega
theorem mt_update : MtM X "dict.update" rUpdate := by
  intro pins s σ H x vs v us Q I rx rv h
  obtain ⟨d, o, kvs, more, rfl, rfl, hd, ho, hne, hz, q⟩ := h
  cases rx
  obtain ⟨u, rfl, ru⟩ := rv.one
  cases ru
  obtain ⟨z1, hd1, vs1, rel1, dd1⟩ := dk_of I.hok hd
  obtain ⟨z2, hd2, vs2, rel2, dd2⟩ := dk_of I.hok ho
  refine call_meetsIn PySem.F.slot_dict_update dd1.typeIs PySem.F.entry_dict_update (PySem.F.args_dict_update_2 _ _) (meets_dict_update (mixKind X.prog X.w) d o hne hd2)
    ⟨vs1, vs2, dd1, dd2, by rw [← rel1.length, ← rel2.length]; exact hz, fun h' hmm _ hs => ?_⟩
  have he : ∃ q, h'.get? d = some q := let ⟨q, _, _, hq, _⟩ := hmm; ⟨q, hq⟩
  exact ⟨.non, _, d_write (t' := s.toks) I (by rw [hd]; exact True.intro) hs he (dk_new (Nat.le_trans (len_merge more kvs) hz) hd1 (KV.merge rel2 rel1) hmm), rfl, q⟩
theorem RepK.length {K : PySem.W.Frag} {B : Hp} : ∀ {a : List (Key × V)} {b : List (Key × D)}, RepK K B a b → a.length = b.length
  | _, _, .nil => rfl
  | _, _, .cons _ r => congrArg (· + 1) (RepK.length r)
def dUpdate (i : Nat) (de : DE) : DS := fun xc E r => match lk r i with
  | some (.tmp (.dic l)) => de xc r fun x => asDic (fun m => l.length + m.length ≤ sizeLine ∧ E.nx (st r i (some (.tmp (.dic (mergeD l m)))))) x.d
  | _ => False
theorem qs_update {i : Nat} {x : Str} {e : Expr} {de : DE} {p1 p2 p3 pos : Pos} (he : PE X e (L X.K W true de))
    (h : PE X (.Call (.Attribute (.Name x p1) "update" p2) [e] [] p3) (tBM X.K "dict" rUpdate (tVar i) (tCons (L X.K W true de) tNil)))
    (hs : swapsWith (.Call (.Attribute (.Name x p1) "update" p2) [e] [] p3) none pos.line X.env = pure false := by rfl) : PS X (.Expr (.Call (.Attribute (.Name x p1) "update" p2) [e] [] p3) pos) (LS X.K W (dUpdate i de)) := by
  refine imS (ps_expr h hs) fun E s H ⟨B, r, xc, De, k, en, h, hx, nx, bk, ct, rt⟩ => ?_
  unfold dUpdate at h
  split at h
  · rename_i l hl
    obtain ⟨p, hp, n, w⟩ := own_at en hl
    obtain ⟨kvs, hv, rl⟩ := id w
    refine ⟨.ref p, hp, .inr (.inr (.inl ⟨rfl, .inl ⟨_, hv⟩⟩)), ?_⟩
    refine ⟨B, r, xc, _, k, en, h, fun cls d e H' B' z => hx cls d e s r H' B' z.s (en.step z), fun v x H1 B1 z rv fr q => ?_⟩
    obtain ⟨m, em, hlen, q⟩ := asDic_elim q
    obtain ⟨a, more, rfl, hm, rm⟩ := rv_dic z.sub rv em
    have hv1 := z.out p _ hv n
    have rl1 := RepK.mono z.kp rl
    have ne : p ≠ a := fun e => by
      subst e
      cases x with
      | dat d =>
        cases (show d = .dic m from em)
        cases rv with
        | dic hb _ _ => rw [hv1.2] at hb; cases hb
      | tmp c =>
        have := fr rfl p c rfl rfl
        rw [hv] at this
        cases this
    obtain ⟨en2, z2⟩ := own_write (o := .dK (mergeK kvs more)) (c' := .dic (mergeD l m)) z.sub (en.step z) hl hp hv1.2 ⟨_, upd_same, RepK.merge rm rl1⟩
    exact ⟨p, a, kvs, more, rfl, rfl, hv1.1, hm, ne, by rw [RepK.length rl1, RepK.length rm]; exact hlen, nx _ _ _ _ (z.s.trans z2) en2 q⟩
  · exact h.elim
/-! ### x[i] = e, x a local that owns its list or dict -/
def putC (d : D) (P : Ct → Prop) : Ct → D → Prop
  | .lst l, .int j => onO (ixN l.length j) fun n => P (.lst (l.set n d))
  | .dic l, k => onO (keyD k) fun q => l.length < sizeLine ∧ P (.dic (putD l q d))
  | _, _ => False
def dPutI (i : Nat) (dk de : DE) : DS := fun xc E r => match lk r i with
  | some (.tmp c) => de xc r fun v => asD (fun d => dk xc r fun k => putC d (fun c' => E.nx (st r i (some (.tmp c')))) c k.d) v
  | _ => False
theorem set_own (hu : X.A.units + 1 < cLine) : PSet X (fun o i v H Q => rSetL o i v H Q ∨ rSetD o i v H Q) := fun pins s σ H o i v ov iv u Q I ro ri rv h =>
  h.elim (set_list pins s σ H o i v ov iv u Q I ro ri rv) (set_dict hu pins s σ H o i v ov iv u Q I ro ri rv)
theorem qs_put (i : Nat) {x : Str} {e j : Expr} {p1 pos pos' : Pos} {dk de : DE} {f2 : Bool} (hu : X.A.units + 1 < cLine) (hx : PE X (.Name x p1) (tVar i)) (hk : PE X j (L X.K W f2 dk)) (he : PE X e (L X.K W true de))
    (ha : ∀ v, assign (.Subscript (.Name x p1) j pos') X.env v = (do
      let ov ← holding [v] (eval (.Name x p1) X.env)
      let iv ← holding [v, ov] (eval j X.env)
      standAt pos'
      holding [v, ov, iv] (setItem ov iv v)
      release [v, ov, iv] []) := by intro _; rfl)
    (hs : swapsWithSole [.Subscript (.Name x p1) j pos'] e pos.line X.env = pure false := by rfl) (hw : swappedStores [.Subscript (.Name x p1) j pos'] e X.env = pure none := by rfl)
    (h1 : (assignEach [.Subscript (.Name x p1) j pos'] X.env).map (·.2) = [assign (.Subscript (.Name x p1) j pos') X.env] := by rfl) :
    PS X (.Assign [.Subscript (.Name x p1) j pos'] e pos) (LS X.K W (dPutI i dk de)) := by
  refine imS (ps_asg he (pg_sub hx hk (set_own hu) ha) hs hw h1) fun E s H ⟨B, r, xc, De, k, en, h, hx, nx, bk, ct, rt⟩ => ?_
  unfold dPutI at h
  split at h
  · rename_i c hl
    obtain ⟨p, hp, n, w⟩ := own_at en hl
    refine ⟨B, r, xc, _, k, en, h, fun cls d e H' B' z => hx cls d e s r H' B' z.s (en.step z), fun v x H1 B1 z1 rv fr q => ?_⟩
    cases x with
    | tmp c => exact q.elim
    | dat d =>
      have en1 := en.step z1
      refine ⟨.ref p, hp, B1, r, xc, _, z1.sub, en1, q, fun cls d e H' B' z => hx cls d e s r H' B' (z1.s.trans z.s) (en1.step z), fun y vy H2 B2 z2 ry _ q2 => ?_⟩
      have z := z1.trans z2
      have rv2 : Rep X.K B2 v d := Rep.mono z2.kp rv
      cases c with
      | lst l =>
        obtain ⟨vs, hv, rl⟩ := w
        have hv2 := z.out p _ hv n
        have rl2 := rl.mono z.kp
        unfold putC at q2
        split at q2
        · rename_i l2 j e1 e2
          cases e1
          obtain ⟨m, hm, q2⟩ := onO_elim q2
          have ey := rv_int ry e2
          subst ey
          obtain ⟨en3, z3⟩ := own_write (o := .lst (vs.set m v)) (c' := .lst (l.set m d)) z2.sub (en.step z) hl hp hv2.2 ⟨_, upd_same, rl2.set rv2 m⟩
          exact .inl ⟨p, vs, j, m, rfl, rfl, hv2.1, by rw [rl2.length]; exact hm, nx _ _ _ _ (z.s.trans z3) en3 q2⟩
        · rename_i e1
          cases e1
        · exact q2.elim
      | dic l =>
        obtain ⟨kvs, hv, rl⟩ := w
        have hv2 := z.out p _ hv n
        have rl2 := RepK.mono z.kp rl
        obtain ⟨kq, ek, hlen, q2⟩ := onO_elim (o := keyD vy.d) q2
        have ey := key_v ry ek
        subst ey
        obtain ⟨en3, z3⟩ := own_write (o := .dK (putK kvs kq v)) (c' := .dic (putD l kq d)) z2.sub (en.step z) hl hp hv2.2 ⟨_, upd_same, RepK.put rv2 rl2⟩
        exact .inr ⟨p, _, rfl, DPut.k hv2.1 (by rw [RepK.length rl2]; exact hlen), nx _ _ _ _ (z.s.trans z3) en3 q2⟩
  · exact h.elim
/-! ### == () and == [] -/
def rEqE (K : PySem.W.Frag) : R2 := fun x y H Q => ∃ a b xs ys, x = .ref a ∧ y = .ref b ∧ ys = [] ∧ ((SqT K H a xs ∧ SqT K H b ys) ∨ (SqL K H a xs ∧ SqL K H b ys)) ∧ Q (.bl xs.isEmpty) H
theorem op_eqE (hu : X.A.units + 64 < cLine) : OpR X (compareOp .Eq) (rEqE X.K) := by
  intro pins s σ H x y v u Q I rx ry h
  obtain ⟨a, b, xs, ys, rfl, rfl, rfl, h, q⟩ := h
  cases rx
  cases ry
  rcases h with ⟨h1, h2⟩ | ⟨h1, h2⟩
  · obtain ⟨its, r1, p1, _⟩ := I.tuple h1
    obtain ⟨its2, r2, p2, _⟩ := I.tuple h2
    cases r2
    refine SeqAt.eq_tupleAt (e := fun _ => true) p1 p2 (by omega) (fun j _ h2 => absurd h2 (Nat.not_lt_zero _)) ⟨_, H, I, ?_, q⟩
    cases r1 <;> rfl
  · obtain ⟨its, r1, p1, _⟩ := I.list h1
    obtain ⟨its2, r2, p2, _⟩ := I.list h2
    cases r2
    cases r1 with
    | nil => exact SeqAt.eq_listAt (e := fun _ => true) p1.isList p2.isList rfl (by omega) (fun j _ h2 => absurd h2 (Nat.not_lt_zero _)) ⟨.bl true, H, I, rfl, q⟩
    | cons _ _ => exact SeqAt.eq_list_lengthsAt p1.isList p2.isList rfl (by omega) ⟨.bl false, H, I, rfl, q⟩
def fEqED (P : Val → Prop) : D → D → Prop
  | .tup l, .tup [] => P (.dat (.bl l.isEmpty))
  | .lst l, .lst [] => P (.dat (.bl l.isEmpty))
  | _, _ => False
def fEqE : F2 := fun x y P => fEqED P x.d y.d
theorem rel_eqE : RelR X.K (rEqE X.K) fEqE := by
  intro B H x y vx vy P Q k rx ry h a
  unfold fEqE fEqED at h
  split at h
  · rename_i l e1 e2
    obtain ⟨p, vs, rfl, _, hp, rl⟩ := rv_tup k rx e1
    obtain ⟨p2, vs2, rfl, _, hp2, rl2⟩ := rv_tup k ry e2
    cases rl2
    exact ⟨p, p2, vs, [], rfl, rfl, rfl, .inl ⟨hp, hp2⟩, by rw [rl.isEmpty]; exact a.dat k (.bl _) h⟩
  · rename_i l e1 e2
    obtain ⟨p, vs, rfl, hp, rl⟩ := rv_lst k rx e1
    obtain ⟨p2, vs2, rfl, hp2, rl2⟩ := rv_lst k ry e2
    cases rl2
    exact ⟨p, p2, vs, [], rfl, rfl, rfl, .inr ⟨.inl (.inl hp), .inl (.inl hp2)⟩, by rw [rl.isEmpty]; exact a.dat k (.bl _) h⟩
  · exact h.elim
section
variable {a b : Expr} {pos : Pos} {da db : DE} {fa fb : Bool} (hu : X.A.units + 64 < cLine) (ha : PE X a (L X.K W fa da)) (hb : PE X b (L X.K W fb db))
include hu ha hb
theorem q_eqE : PE X (.Compare a [.Eq] [b] pos) (L X.K W true (dOp fEqE da db)) := q_cmp (op_eqE hu) rel_eqE ha hb (nomark _)
theorem qt_eqE : PT X (.Compare a [.Eq] [b] pos) (LT X.K W (dB (dOp fEqE da db))) := qt_cmp (op_eqE hu) rel_eqE ha hb (nomark _)
end
end
/-! ### equations by which these readings are opened -/
theorem z001 (P : Val → Prop) (l : List D) : (fEqED P (.tup l) (.tup [])) = (P (.dat (.bl l.isEmpty))) := rfl
theorem z002 (P : Val → Prop) (l : List D) : (fEqED P (.lst l) (.lst [])) = (P (.dat (.bl l.isEmpty))) := rfl
theorem z003 (P : List (Key × D) → Prop) (l : List (Key × D)) : (asDic P (.dic l)) = (P l) := rfl
theorem z004 (P : Val → Prop) (y : Val) (d : D) : (getP (some d) y P) = (P (.dat d)) := rfl
theorem z005 (P : Val → Prop) (y : Val) : (getP none y P) = (P y) := rfl
theorem z006 (i : Int) : (keyD (.int i)) = (some (.inl i)) := rfl
theorem z007 (i : Str) : (keyD (.str i)) = (some (.inr i)) := rfl
theorem z008 (l : List D) : (itD (.tup l)) = (some l) := rfl
theorem z009 (l : List D) : (itD (.lst l)) = (some l) := rfl
theorem z010 (z : Str) : (itD (.str z)) = (some (z.cps.toList.map fun c => .str ⟨#[c]⟩)) := rfl
theorem z011 (d : D) (P : Ct → Prop) (l : List D) (j : Int) : (putC d P (.lst l) (.int j)) = (onO (ixN l.length j) fun n => P (.lst (l.set n d))) := rfl
theorem z012 (d : D) (P : Ct → Prop) (l : List (Key × D)) (j : Int) : (putC d P (.dic l) (.int j)) = (l.length < sizeLine ∧ P (.dic (putD l (.inl j) d))) := rfl
theorem z013 (d : D) (P : Ct → Prop) (l : List (Key × D)) (j : Str) : (putC d P (.dic l) (.str j)) = (l.length < sizeLine ∧ P (.dic (putD l (.inr j) d))) := rfl
theorem z014 {α : Type} (a : α) (P : α → Prop) : (onO (some a) P) = (P a) := rfl
theorem z015 {α : Type} (P : α → Prop) : (onO (none : Option α) P) = False := rfl
end Dl
/-! Dl11: plain facts: == of flat data, what may be asked, how deep. -/
namespace Dl
open PySem PySem.Spec PyProof.Rows L2
theorem eqOk_int (i : Int) : eqOk (.int i) = true := rfl
theorem eqOk_non : eqOk .non = true := rfl
theorem eqOk_str {s : Str} (h : okS s) : eqOk (.str s) = true := by
  unfold eqOk SeqAt.shaped
  rw [Bool.and_eq_true, Bool.and_eq_true]
  exact ⟨rfl, okS_strOk h, rfl⟩
theorem eqd_int (a b : Int) : eqd (.int a) (.int b) = decide (a = b) := by
  show (a == b) = _
  by_cases h : a = b
  · subst h; simp
  · simp [h]
theorem eqd_str (a b : Str) : eqd (.str a) (.str b) = decide (a = b) := by
  show (a == b) = _
  by_cases h : a = b
  · subst h; simp
  · simp [h]
theorem eqd_bl' (a b : Bool) : eqd (.bl a) (.bl b) = decide (a = b) := by cases a <;> cases b <;> rfl
theorem one_inj {c d : Nat} : ((⟨#[c]⟩ : Str) = ⟨#[d]⟩) ↔ c = d := by
  constructor
  · intro h
    injection h with h
    injection h with h
    injection h with h
  · rintro rfl; rfl
theorem eqd_one (c d : Nat) : eqd (.str ⟨#[c]⟩) (.str ⟨#[d]⟩) = decide (c = d) := by
  rw [eqd_str]
  by_cases h : c = d
  · subst h; simp
  · rw [decide_eq_false h, decide_eq_false fun z => h (one_inj.mp z)]
theorem sz_ok {n : Nat} (h : n ≤ 100000) : n ≤ sizeLine := small_sz h
mutual
/-- data that a law may hand about: texts not too long, at most m things in a tuple or list -/
def okT (m : Nat) : D → Bool
  | .non => true
  | .bl _ => true
  | .int _ => true
  | .str s => decide (s.length ≤ 1000) && s.cps.toList.all fun c => decide (c < 0x110000)
  | .tup l => okTL m l && decide (l.length ≤ m)
  | .lst l => okTL m l && decide (l.length ≤ m)
  | .dic _ => true
  | _ => false
def okTL (m : Nat) : List D → Bool
  | [] => true
  | d :: r => okT m d && okTL m r
end
mutual
/-- how deep the tuples lie -/
def dep : D → Nat
  | .tup l => depL l + 1
  | _ => 0
def depL : List D → Nat
  | [] => 0
  | d :: r => max (dep d) (depL r)
end
theorem okT_plain {m : Nat} {d : D} (h : okT m d = true) : d.plain = true := by cases d <;> first | rfl | cases h
theorem okT_str {m : Nat} {s : Str} : okT m (.str s) = true ↔ s.length ≤ 1000 ∧ okS s := by
  show (decide (s.length ≤ 1000) && s.cps.toList.all fun c => decide (c < 0x110000)) = true ↔ _
  rw [Bool.and_eq_true, decide_eq_true_iff, List.all_eq_true]
  exact ⟨fun h => ⟨h.1, fun c hc => of_decide_eq_true (h.2 c hc)⟩, fun h => ⟨h.1, fun c hc => decide_eq_true (h.2 c hc)⟩⟩
theorem okTL_mem {m : Nat} : ∀ {l : List D}, okTL m l = true ↔ ∀ d ∈ l, okT m d = true
  | [] => ⟨fun _ d h => (nomatch h), fun _ => rfl⟩
  | a :: r => by
    show (okT m a && okTL m r) = true ↔ _
    rw [Bool.and_eq_true, okTL_mem (l := r)]
    refine ⟨fun h d hd => ?_, fun h => ⟨h a (List.mem_cons_self ..), fun d hd => h d (List.mem_cons_of_mem _ hd)⟩⟩
    rcases List.mem_cons.mp hd with e | e
    · rw [e]; exact h.1
    · exact h.2 d e
theorem okT_tup {m : Nat} {l : List D} : okT m (.tup l) = true ↔ (∀ d ∈ l, okT m d = true) ∧ l.length ≤ m := by
  show (okTL m l && decide (l.length ≤ m)) = true ↔ _
  rw [Bool.and_eq_true, okTL_mem, decide_eq_true_iff]
theorem okT_lst {m : Nat} {l : List D} : okT m (.lst l) = true ↔ (∀ d ∈ l, okT m d = true) ∧ l.length ≤ m := by
  show (okTL m l && decide (l.length ≤ m)) = true ↔ _
  rw [Bool.and_eq_true, okTL_mem, decide_eq_true_iff]
mutual
theorem okT_up {m k : Nat} (hk : m ≤ k) : ∀ {d : D}, okT m d = true → okT k d = true
  | .non, h => h
  | .bl _, h => h
  | .int _, h => h
  | .str _, h => h
  | .tup l, h => by
    have h : (okTL m l && decide (l.length ≤ m)) = true := h
    rw [Bool.and_eq_true, decide_eq_true_iff] at h
    show (okTL k l && decide (l.length ≤ k)) = true
    rw [Bool.and_eq_true, decide_eq_true_iff]
    exact ⟨okTL_up hk h.1, Nat.le_trans h.2 hk⟩
  | .lst l, h => by
    have h : (okTL m l && decide (l.length ≤ m)) = true := h
    rw [Bool.and_eq_true, decide_eq_true_iff] at h
    show (okTL k l && decide (l.length ≤ k)) = true
    rw [Bool.and_eq_true, decide_eq_true_iff]
    exact ⟨okTL_up hk h.1, Nat.le_trans h.2 hk⟩
  | .dic _, h => h
theorem okTL_up {m k : Nat} (hk : m ≤ k) : ∀ {l : List D}, okTL m l = true → okTL k l = true
  | [], _ => rfl
  | a :: r, h => by
    have h : (okT m a && okTL m r) = true := h
    rw [Bool.and_eq_true] at h
    show (okT k a && okTL k r) = true
    rw [Bool.and_eq_true]
    exact ⟨okT_up hk h.1, okTL_up hk h.2⟩
end
theorem depL_le {n : Nat} : ∀ {l : List D}, depL l ≤ n ↔ ∀ d ∈ l, dep d ≤ n
  | [] => ⟨fun _ d h => (nomatch h), fun _ => Nat.zero_le _⟩
  | a :: r => by
    show max (dep a) (depL r) ≤ n ↔ _
    rw [Nat.max_le, depL_le (l := r)]
    refine ⟨fun h d hd => ?_, fun h => ⟨h a (List.mem_cons_self ..), fun d hd => h d (List.mem_cons_of_mem _ hd)⟩⟩
    rcases List.mem_cons.mp hd with e | e
    · rw [e]; exact h.1
    · exact h.2 d e
theorem dep_tup {n : Nat} {l : List D} : dep (.tup l) ≤ n + 1 ↔ ∀ d ∈ l, dep d ≤ n := by
  show depL l + 1 ≤ n + 1 ↔ _
  rw [← depL_le (n := n)]
  omega
/-- data, not too deep -/
def Gd (m n : Nat) (d : D) : Prop := okT m d = true ∧ dep d ≤ n
theorem Gd.up {k n m : Nat} {d : D} (h : Gd k n d) (hm : n ≤ m) : Gd k m d := ⟨h.1, Nat.le_trans h.2 hm⟩
theorem Gd.wide {k n m : Nat} {d : D} (h : Gd k n d) (hm : k ≤ m) : Gd m n d := ⟨okT_up hm h.1, h.2⟩
theorem gd_tup {k n : Nat} {l : List D} (h : ∀ d ∈ l, Gd k n d) (hl : l.length ≤ k) : Gd k (n + 1) (.tup l) := ⟨okT_tup.mpr ⟨fun d hd => (h d hd).1, hl⟩, dep_tup.mpr fun d hd => (h d hd).2⟩
theorem gd_of_tup {k n : Nat} {l : List D} (h : Gd k (n + 1) (.tup l)) : (∀ d ∈ l, Gd k n d) ∧ l.length ≤ k := ⟨fun d hd => ⟨(okT_tup.mp h.1).1 d hd, dep_tup.mp h.2 d hd⟩, (okT_tup.mp h.1).2⟩
theorem gd_zero {k : Nat} {l : List D} (h : Gd k 0 (.tup l)) : False := by
  have := h.2
  have e : dep (.tup l) = depL l + 1 := rfl
  omega
theorem gd_lst {k n m : Nat} {l : List D} (h : ∀ d ∈ l, Gd k m d) (hl : l.length ≤ k) : Gd k n (.lst l) := ⟨okT_lst.mpr ⟨fun d hd => (h d hd).1, hl⟩, Nat.zero_le _⟩
theorem gd_str {k n : Nat} {s : Str} (h : s.length ≤ 1000) (o : okS s) : Gd k n (.str s) := ⟨okT_str.mpr ⟨h, o⟩, Nat.zero_le _⟩
theorem gd_int {k n : Nat} (i : Int) : Gd k n (.int i) := ⟨rfl, Nat.zero_le _⟩
theorem gd_bl {k n : Nat} (i : Bool) : Gd k n (.bl i) := ⟨rfl, Nat.zero_le _⟩
theorem mem_cut {l : List D} {lo hi : Option Int} {d : D} (h : d ∈ cutD l lo hi) : d ∈ l := List.mem_of_mem_drop (List.mem_of_mem_take h)
theorem cut_len (l : List D) (lo hi : Option Int) : (cutD l lo hi).length ≤ l.length := by
  unfold cutD
  rw [List.length_take, List.length_drop]
  omega
/-- all but the first -/
theorem cut_tail (a : D) (l : List D) : cutD (a :: l) (some 1) none = l := by
  unfold cutD
  have e1 : HT.sIx (a :: l).length 0 (some 1) = 1 := by
    unfold HT.sIx
    simp
  have e2 : HT.sIx (a :: l).length (a :: l).length none = (a :: l).length := rfl
  rw [e1, e2]
  simp
theorem tabV_map (f : Str → D) (z : Str) : ∀ l : List (Str × Str), tabV (l.map fun p => (p.1, f p.2)) z = ((l.find? fun p => decide (p.1 = z)).map (·.2)).map f
  | [] => rfl
  | (k, v) :: r => by
    unfold tabV
    rw [List.map_cons, List.find?_cons, List.find?_cons]
    by_cases h : k = z
    · rw [decide_eq_true h]; rfl
    · rw [decide_eq_false h]; exact tabV_map f z r
theorem valD_map (f : Str → D) (z : Str) : ∀ l : List (Str × Str), valD (l.map fun p => ((.inr p.1 : Key), f p.2)) (.inr z) = ((l.find? fun p => decide (p.1 = z)).map (·.2)).map f
  | [] => rfl
  | (k, v) :: r => by
    unfold valD
    rw [List.map_cons, List.find?_cons, List.find?_cons]
    by_cases h : k = z
    · rw [decide_eq_true h, decide_eq_true (by rw [h])]; rfl
    · rw [decide_eq_false h, decide_eq_false (fun e => h (Sum.inr.inj e))]; exact valD_map f z r
theorem merge_app : ∀ (more kvs : List (Key × D)), ((kvs ++ more).map (·.1)).Nodup → mergeD kvs more = kvs ++ more
  | [], kvs, _ => by rw [List.append_nil]; rfl
  | p :: more, kvs, h => by
    have hn : (kvs.any fun kv => decide (kv.1 = p.1)) = false := by
      rw [List.any_eq_false]
      intro kv hkv e
      have e : kv.1 = p.1 := of_decide_eq_true e
      rw [List.map_append, List.nodup_append] at h
      exact h.2.2 kv.1 (List.mem_map.mpr ⟨kv, hkv, rfl⟩) p.1 (List.mem_map.mpr ⟨p, List.mem_cons_self .., rfl⟩) e
    have e1 : mergeD kvs (p :: more) = mergeD (putD kvs p.1 p.2) more := rfl
    have e2 : putD kvs p.1 p.2 = kvs ++ [p] := by
      unfold putD
      rw [hn]
      rfl
    have e3 : kvs ++ p :: more = kvs ++ [p] ++ more := by simp
    rw [e1, e2, merge_app more (kvs ++ [p]) (by rw [← e3]; exact h), ← e3]
theorem merge_new {more : List (Key × D)} (h : (more.map (·.1)).Nodup) : mergeD [] more = more := merge_app more [] h
theorem cut_take (l : List D) {i : Int} (h : 0 ≤ i) : cutD l none (some i) = l.take i.toNat := by
  unfold cutD
  have e1 : HT.sIx l.length 0 none = 0 := rfl
  have e2 : HT.sIx l.length l.length (some i) = min i.toNat l.length := by
    show (if i < 0 then (i + (l.length : Int)).toNat else min i.toNat l.length) = _
    rw [if_neg (by omega)]
  rw [e1, e2, List.drop_zero, Nat.sub_zero]
  rcases Nat.le_total i.toNat l.length with z | z
  · rw [Nat.min_eq_left z]
  · rw [Nat.min_eq_right z, List.take_length, List.take_of_length_le z]
theorem cut_drop (l : List D) {i : Int} (h : 0 ≤ i) : cutD l (some i) none = l.drop i.toNat := by
  unfold cutD
  have e1 : HT.sIx l.length 0 (some i) = min i.toNat l.length := by
    show (if i < 0 then (i + (l.length : Int)).toNat else min i.toNat l.length) = _
    rw [if_neg (by omega)]
  have e2 : HT.sIx l.length l.length none = l.length := rfl
  rw [e1, e2]
  rcases Nat.le_total i.toNat l.length with z | z
  · rw [Nat.min_eq_left z, List.take_of_length_le (by rw [List.length_drop]; omega)]
  · rw [Nat.min_eq_right z, List.drop_of_length_le (Nat.le_refl _), List.drop_of_length_le z, List.take_nil]
theorem gT2_mk {i j : Nat} {a b : D} {r : DEnv} {P : DEnv → Prop} (h : P (Dl.st (Dl.st r i (some (.dat a))) j (some (.dat b)))) : gT2 i j (.tup [a, b]) r P := h
theorem gT3_mk {i j k : Nat} {a b c : D} {r : DEnv} {P : DEnv → Prop} (h : P (Dl.st (Dl.st (Dl.st r i (some (.dat a))) j (some (.dat b))) k (some (.dat c)))) : gT3 i j k (.tup [a, b, c]) r P := h
theorem gN_mk {i : Nat} {d : D} {r : DEnv} {P : DEnv → Prop} (h : P (Dl.st r i (some (.dat d)))) : gN i d r P := h
end Dl
namespace Cl
open PySem PySem.Spec PyProof.Rows L2 Dl
local macro_rules | `(tactic| walk_at "dl") => `(tactic| dsimp only [dSeq, dSet, dRet, dRetV, dRetN, dDrop, dIfS, dNext, dBreak, dCont, dC, dVar, dVarM, dOp, dUn, dChain, dB, dTru, dAnd, dOr, dNot, dAndV, dOrV, dNotV, dIf, dSh, dNil, dCons, dTup, dLst, dCall, dCallX, dIt, dRng1, dRng2, dYes, dLc, dFor, dM1, dSl, dNo, dPart, dRevS, dDisp, dNewD, dDrawGet, dDrawPut, dDraw, dFz, dAppend, lk, Dl.st, fz, fI, fI0, fSub, fMul, fMod, fDiv, fPow, fLt, fLe, fGt, fGe, fNeg, fAdd, fIs, fIsNot, fEq, fNe, fIn, fTru, fIx, fSl, fLen, fAbs, fInt, fMax, fMin, fList, fTuple, fAll, fAny, fIsi, fSplit, fJoin, fIt, gN, gT2, gT3, wp, dGet1, dGet2, dKGet, dUpdate, dPutI, dZip, fEqE, y001, y002, y003, y004, y005, y006, y007, y008, y009, y010, y011, y012, y013, y014, y015, y016, y017, y018, y019, y020, y021, y022, y023, y024, y025, y026, y027, y028, y029, y030, y031, y032, y033, y034, y035, y036, y037, y038, y039, y040, y041, y042, y043, y044, y045, y046, y047, y048, y049, y050, y051, y052, y053, y054, y055, y056, y057, y058, y059, y060, y061, y062, y063, y064, y065, y066, y067, y068, y069, y070, y071, y072, y073, y074, y075, y076, y077, y078, y079, y080, y081, y082, y083, y084, y085, y086, y087, y088, y089, y090, y091, y092, y093, y094, y095, y096, y097, y098, y099, y100, y101, y102, y103, y104, y105, y106, y107, y108, y109, y110, y111, y112, y113, y114, y115, y116, y117, y118, y119, y120, y121, y122, y123, y124, y125, y126, y127, y128, y129, y130, y131, y132, y133, y134, y135, y136, y137, y138, y139, y140, y141, y142, y143, y144, y145, y146, y147, y148, y149, y150, y151, y152, y153, y154, y155, y156, y157, y158, y159, y160, y161, y162, y163, y164, y165, y166, y167, y168, y169, y170, y171, z001, z002, z003, z004, z005, z006, z007, z008, z009, z010, z011, z012, z013, z014, z015])
local macro_rules | `(tactic| walk_at "sz") => `(tactic| repeat (refine And.intro (small_sz (by (try simp only [len_app, revS_length, List.length_cons, List.length_nil, List.length_append, List.length_map]); omega)) ?_))
def LET : Str := "abcdefghijklmnopqrstuvwxyz"
def KEPTL : List Str := ["number", "truth", "name", "gap", "let", "fun", "call", "pair", "first", "second", "none", "add", "fold", "again", "if", "plus", "minus", "less", "same", "yes", "no", "num", "list", "any"]
/-- is it a name -/
def nameS (s : Str) : Bool := decide (1 ≤ s.length ∧ s.length ≤ 6) && !decide (s ∈ KEPTL) && s.cps.toList.all fun c => decide (c ∈ LET.cps.toList)
def nameB : D → Bool
  | .str s => nameS s
  | _ => false
/-- a thing that may be asked: not too long -/
def askOk : D → Prop
  | .str s => s.length ≤ 1000 ∧ okS s
  | d => d.plain = true
theorem chars_of {L : List Nat} : ∀ {acc : List D}, (∀ d ∈ acc, ∃ c ∈ L, d = .str ⟨#[c]⟩) → ∃ cs : List Nat, acc = cs.map (fun c => D.str ⟨#[c]⟩) ∧ ∀ c ∈ cs, c ∈ L
  | [], _ => ⟨[], rfl, fun _ h => nomatch h⟩
  | d :: r, h => by
    obtain ⟨c, hc, e⟩ := h d (List.mem_cons_self ..)
    obtain ⟨cs, e2, h2⟩ := chars_of fun x hx => h x (List.mem_cons_of_mem _ hx)
    refine ⟨c :: cs, by rw [e, e2]; rfl, fun x hx => ?_⟩
    rcases List.mem_cons.mp hx with rfl | hx
    · exact hc
    · exact h2 x hx
theorem kept_q : KEPTL.all (fun w => nameS (cutS w none (some 5) ++ "q")) = true := by decide +kernel
theorem let_len : LET.length = 26 := by decide +kernel
theorem let_eq : ("abcdefghijklmnopqrstuvwxyz" : Str) = LET := rfl
theorem name_len {s : Str} (h : nameS s = true) : 1 ≤ s.length ∧ s.length ≤ 6 := by
  unfold nameS at h
  rw [Bool.and_eq_true, Bool.and_eq_true] at h
  exact of_decide_eq_true h.1.1
theorem name_not {s : Str} (h : nameS s = true) : ¬ s ∈ KEPTL := by
  unfold nameS at h
  rw [Bool.and_eq_true, Bool.and_eq_true] at h
  exact of_decide_eq_false (by simpa using h.1.2)
theorem let_ok : okS LET := by
  have h : LET.cps.toList.all (fun c => decide (c < 0x110000)) = true := by decide +kernel
  exact fun c hc => of_decide_eq_true (List.all_eq_true.mp h c hc)
theorem name_ok {s : Str} (h : nameS s = true) : okS s := by
  unfold nameS at h
  rw [Bool.and_eq_true, Bool.and_eq_true] at h
  exact fun c hc => let_ok c (of_decide_eq_true (List.all_eq_true.mp h.2 c hc))
theorem first_of {s : Str} (h : nameS s = true) {P : Nat → Prop} (q : ∀ c, c < 0x110000 → P c) : onO (atI s.cps.toList 0) P := by
  have hl := name_len h
  obtain ⟨c, hc, hm⟩ := atI_get (l := s.cps.toList) (i := 0) (by omega) (by
    rw [Array.length_toList]
    show (0 : Int) < ((s.length : Nat) : Int)
    omega)
  exact onO_of hc (q c (name_ok h c hm))
theorem nameS_no1 {s : Str} (h : ¬ (1 ≤ s.length ∧ s.length ≤ 6)) : nameS s = false := by
  unfold nameS
  rw [decide_eq_false h]
  rfl
theorem nameS_no2 {s : Str} (h : s ∈ KEPTL) : nameS s = false := by
  unfold nameS
  rw [decide_eq_true h]
  simp
theorem nameS_yes {s : Str} (h : 1 ≤ s.length ∧ s.length ≤ 6) (h2 : ¬ s ∈ KEPTL) : nameS s = s.cps.toList.all fun c => decide (c ∈ LET.cps.toList) := by
  unfold nameS
  rw [decide_eq_true h, decide_eq_false h2]
  rfl
theorem chars_bl (f : Nat → Bool) (g : D → D) (hg : ∀ c, g (.str ⟨#[c]⟩) = .bl (f c)) (l : List Nat) : blsOf ((l.map fun c => D.str ⟨#[c]⟩).map g) = some (l.map f) := by
  rw [List.map_map]
  have e : (g ∘ fun c => D.str ⟨#[c]⟩) = fun c => D.bl (f c) := funext hg
  rw [e]
  exact blsOf_map f l
/-- the sign of a text of one -/
def signOf : D → Nat
  | .str ⟨⟨[c]⟩⟩ => c
  | _ => 0
theorem none_left {α : Type} (p : α → Bool) : ∀ l : List α, (l.filter fun c => !p c).isEmpty = l.all p
  | [] => rfl
  | a :: r => by
    cases h : p a with
    | true => rw [List.filter_cons_of_neg (by rw [h]; decide), List.all_cons, h, none_left p r]; rfl
    | false => rw [List.filter_cons_of_pos (by rw [h]; decide), List.all_cons, h]; rfl
theorem safe_nil : (Ct.dic []).safe := fun a b m h => by
  have := congrArg List.length h
  cases this
local macro_rules | `(tactic| walk_at "szt") => `(tactic| repeat (refine And.intro (by first | exact trivial | exact safe_nil | exact small_sz (by (try simp only [len_app, revS_length, List.length_cons, List.length_nil, List.length_append, List.length_map]); omega)) ?_))
/-! ### terms -/
def SGT : List (Str × Str) := [("number", "v"), ("truth", "b"), ("name", "x"), ("gap", "x"), ("let", "xtt"), ("fun", "xt"), ("call", "tt"), ("pair", "tt"), ("first", "t"), ("second", "t"), ("none", ""), ("add", "tt"), ("fold", "ttxxt"), ("again", "ttxt"), ("if", "ttt"), ("plus", "tt"), ("minus", "tt"), ("less", "tt"), ("same", "tt")]
/-- the signs of a word -/
def sgn (w : Str) : Option Str := (SGT.find? fun p => decide (p.1 = w)).map (·.2)
/-- a part that is no term, by its sign -/
def single (c : Nat) (d : D) : Bool := if c = 120 then nameB d else d.isi .int && (d.isi .bool == decide (c = 98))
/-- the parts' sizes put together -/
def szs (f : D → Option Nat) : List Nat → List D → Option Nat
  | [], [] => some 0
  | c :: cs, p :: ps => match (if c = 116 then f p else if single c p then some 0 else none), szs f cs ps with
    | some a, some b => some (a + b)
    | _, _ => none
  | _, _ => none
/-- fold's two names are alike -/
def alike (w : Str) (ps : List D) : Bool := decide (w = "fold") && match ps with
  | [_, _, .str a, .str b, _] => decide (a = b)
  | _ => false
/-- how many parts a term has, if it is one not deeper than n -/
def size : Nat → D → Option Nat
  | n + 1, .tup (.str w :: ps) => match sgn w with
    | some s => if ps.length = s.length then (if alike w ps then none else (szs (size n) s.cps.toList ps).map (· + 1)) else none
    | none => none
  | _, _ => none
theorem size_zero (d : D) : size 0 d = none := by unfold size; rfl
theorem size_succ (n : Nat) (w : Str) (ps : List D) : size (n + 1) (.tup (.str w :: ps)) = match sgn w with
    | some s => if ps.length = s.length then (if alike w ps then none else (szs (size n) s.cps.toList ps).map (· + 1)) else none
    | none => none := rfl
/-- it has the form that is looked at first -/
def headed : D → Option (Str × List D)
  | .tup (.str w :: ps) => some (w, ps)
  | _ => none
theorem size_unheaded {n : Nat} {d : D} (h : headed d = none) : size n d = none := by
  unfold size
  split
  · cases h
  · rfl
theorem sgt_short : SGT.all (fun p => decide (p.2.length ≤ 5) && p.2.cps.toList.all fun c => decide (c < 0x110000)) = true := by decide +kernel
theorem sgn_mem {w s : Str} (h : sgn w = some s) : (w, s) ∈ SGT := by
  unfold sgn at h
  obtain ⟨p, hp, e⟩ := Option.map_eq_some_iff.mp h
  have h1 := List.find?_some hp
  have h2 := List.mem_of_find?_eq_some hp
  have e1 : p.1 = w := of_decide_eq_true h1
  have e2 : (w, s) = p := by rw [← e1, ← e]
  rw [e2]
  exact h2
theorem sgn_short {w s : Str} (h : sgn w = some s) : s.length ≤ 5 ∧ okS s := by
  have q := List.all_eq_true.mp sgt_short _ (sgn_mem h)
  rw [Bool.and_eq_true] at q
  exact ⟨of_decide_eq_true q.1, fun c hc => of_decide_eq_true (List.all_eq_true.mp q.2 c hc)⟩
theorem sgn_fold {s : Str} (h : sgn "fold" = some s) : s = "ttxxt" := by
  have e : sgn "fold" = some "ttxxt" := by decide +kernel
  rw [e] at h
  exact (Option.some.inj h).symm
/-- what is left of l -/
def lefts (o : Option Nat) (l : Int) : Int := match o with
  | some k => if (k : Int) ≤ l then l - k else -1
  | none => -1
def sp_is_name : DSp := fun ds _ P => ∃ d, ds = [d] ∧ askOk d ∧ P (.dat (.bl (nameB d)))
def sp_w_cell_at : DSp := fun ds _ P => ∃ ns k, ds = [.scr ns, .int k] ∧ 0 ≤ k ∧ ∀ n, P (.dat (.int n))
def sp_w_begun : DSp := fun ds _ P => ∃ ns k, ds = [.scr ns, .int k] ∧ 0 ≤ k ∧ k < 1000000 ∧ P (.dat .draw)
def sp_w_next : DSp := fun ds _ P => ∃ n, ds = [.draw, .int n] ∧ 0 < n ∧ n < 2 ^ 100 ∧ ∀ r, 0 ≤ r → r < n → P (.dat (.int r))
def sp_w_pick : DSp := fun ds _ P => ∃ c l, ds = [.draw, c] ∧ (c = .lst l ∨ c = .tup l) ∧ 0 < l.length ∧ l.length < 100000 ∧ ∀ d ∈ l, P (.dat d)
def sp_w_kept : DSp := fun ds _ P => ds = [] ∧ P (.tmp (.lst (KEPTL.map D.str)))
def sp_w_any_name : DSp := fun ds _ P => ds = [.draw] ∧ ∀ s, nameS s = true → P (.dat (.str s))
def sp_w_is_name : DSp := sp_is_name
def sp_w_some_names : DSp := fun ds _ P => ∃ m : Int, ds = [.draw, .int m] ∧ 1 ≤ m ∧ m ≤ 100 ∧ ∀ ns : List Str, (ns.length : Int) = m → (∀ s ∈ ns, nameS s = true) → P (.tmp (.lst (ns.map D.str)))
/-- a list of names -/
def Nms (ns : List Str) : Prop := 1 < ns.length ∧ ns.length ≤ 100 ∧ ∀ s ∈ ns, nameS s = true
def sp_w_any_number : DSp := fun ds _ P => ds = [.draw] ∧ ∀ i : Int, P (.dat (.int i))
def sp_w_leaf : DSp := fun ds _ P => ∃ ns : List Str, ds = [.draw, .lst (ns.map D.str)] ∧ Nms ns ∧ ∀ d, Gd 100 1 d → P (.dat d)
def sp_w_signs : DSp := fun ds _ P => ∃ w : Str, ds = [.str w] ∧ P (.dat (match sgn w with | some s => .str s | none => .non))
def sp_w_any_term (n : Nat) : DSp := fun ds _ P => ∃ (ns : List Str) (k : Int), ds = [.draw, .lst (ns.map D.str), .int k] ∧ Nms ns ∧ 0 ≤ k ∧ k < n ∧ ∀ d, Gd 100 n d → P (.dat d)
def sp_w_wide (n : Nat) : DSp := fun ds _ P => ∃ (m : Int) (t : D), ds = [.int m, t] ∧ 1 ≤ m ∧ m ≤ n ∧ m ≤ 1000 ∧ Gd 100 1 t ∧ ∀ d, Gd 100 (n + 1) d → P (.dat d)
def sp_w_chain : DSp := fun ds _ P => ∃ (m : Int) (t : D), ds = [.int m, t] ∧ 1 ≤ m ∧ m ≤ 50 ∧ Gd 100 1 t ∧ ∀ d, Gd 100 51 d → P (.dat d)
def sp_w_odd : DSp := fun ds _ P => ∃ ns : List Str, ds = [.draw, .lst (ns.map D.str)] ∧ Nms ns ∧ ∀ d, Gd 101 2 d → P (.dat d)
def sp_w_bent (n : Nat) : DSp := fun ds _ P => ∃ (t : D) (ns : List Str), ds = [.draw, t, .lst (ns.map D.str)] ∧ Nms ns ∧ 0 < n ∧ Gd 100 (n - 1) t ∧ (∀ d, Gd 101 (n + 1) d → P (.dat d)) ∧ ∀ l, Gd 101 (n + 1) (.lst l) → P (.tmp (.lst l))
def sp_is_single : DSp := fun ds _ P => ∃ (c : Nat) (d : D), ds = [.str ⟨#[c]⟩, d] ∧ c < 0x110000 ∧ okT 101 d = true ∧ P (.dat (.bl (single c d)))
def sp_left_behind (n : Nat) : DSp := fun ds _ P => ∃ (d : D) (l : Int) (k : Nat), ds = [d, .int l, .int k] ∧ k < n ∧ okT 101 d = true ∧ P (.dat (.int (lefts (size k d) l)))
def sp_is_term : DSp := fun ds _ P => ∃ d, ds = [d] ∧ okT 101 d = true ∧ P (.dat (.bl (decide (0 ≤ lefts (size 40 d) 200))))
def sp_w_look (n : Nat) : DSp := fun ds _ P => ∃ (d : D) (k : Nat), ds = [d, .int k] ∧ k < n ∧ okT 101 d = true ∧ ∀ r : Int, (match size k d with | some m => r = m | none => 1000 ≤ r) → P (.dat (.int r))
def sp_w_right : DSp := fun ds _ P => ∃ d, ds = [d] ∧ okT 101 d = true ∧ P (.dat (.bl true))
def sp_law : DSp := fun ds _ P => ∃ ns : List Int, ds = [.scr ns] ∧ ns.length ≤ 63 ∧ P (.dat (.bl true))
def g_KEPT : D := (.tup [(.str "number"), (.str "truth"), (.str "name"), (.str "gap"), (.str "let"), (.str "fun"), (.str "call"), (.str "pair"), (.str "first"), (.str "second"), (.str "none"), (.str "add"), (.str "fold"), (.str "again"), (.str "if"), (.str "plus"), (.str "minus"), (.str "less"), (.str "same"), (.str "yes"), (.str "no"), (.str "num"), (.str "list"), (.str "any")])
def g_LETTERS : D := (.str "abcdefghijklmnopqrstuvwxyz")
def g_MOST_DEEP : D := (.int 40)
def g_MOST_LETTERS : D := (.int 6)
def g_MOST_PARTS : D := (.int 200)
def tab_SIGNS : List (Str × D) := [("number", (.str "v")), ("truth", (.str "b")), ("name", (.str "x")), ("gap", (.str "x")), ("let", (.str "xtt")), ("fun", (.str "xt")), ("call", (.str "tt")), ("pair", (.str "tt")), ("first", (.str "t")), ("second", (.str "t")), ("none", (.str "")), ("add", (.str "tt")), ("fold", (.str "ttxxt")), ("again", (.str "ttxt")), ("if", (.str "ttt")), ("plus", (.str "tt")), ("minus", (.str "tt")), ("less", (.str "tt")), ("same", (.str "tt"))]
/-! cell_at -/
abbrev N_w_cell_at : List Str := ["_law_script", "_law_k"]
def d_w_cell_at : DS :=
  (dSeq (dIfS (dB (dOp fLt (dVar 1) (dUn fLen (dVar 0))))
  (dRet (dOp fIx (dVar 0) (dVar 1)))
  dNext)
  (dRet (dC (.int 0))))
/-! begun -/
abbrev N_w_begun : List Str := ["_law_script", "_law_k", "_law_cell", "_law_mixed"]
def d_w_begun : DS :=
  (dSeq (dSet 2 (dUn fAbs (dCall sp_w_cell_at (dCons (dVarM 0) (dCons (dVarM 1) dNil)))))
  (dSeq (dSet 3 (dOp fMod (dOp fAdd (dOp fAdd (dOp fMul (dOp fMod (dVar 2) (dC (.int 2147483629))) (dC (.int 48271))) (dOp fMul (dC (.int 7919)) (dVar 1))) (dC (.int 104729))) (dC (.int 2147483647))))
  (dRet (dDraw (dDisp [((dC (.str "rest")), (dOp fMax (dC (.int 0)) (dOp fSub (dVar 2) (dOp fPow (dC (.int 10)) (dC (.int 18)))))), ((dC (.str "mixed")), (dOp fMod (dOp fAdd (dOp fMul (dVar 3) (dVar 3)) (dOp fMul (dC (.int 69621)) (dVar 1))) (dC (.int 2147483629))))])))))
/-! next -/
abbrev N_w_next : List Str := ["_law_draw", "_law_many", "_law_number", "_law_found"]
def d_w_next : DS :=
  (dSeq (dIfS (dB (dOp fGt (dDrawGet 0 "rest") (dC (.int 0))))
  (dSeq (dSet 3 (dOp fMod (dDrawGet 0 "rest") (dVar 1)))
  (dSeq (dDrawPut 0 "rest" (dOp fDiv (dDrawGet 0 "rest") (dVar 1)))
  (dRetV 3)))
  dNext)
  (dSeq (dDrawPut 0 "mixed" (dOp fMod (dOp fAdd (dOp fMul (dDrawGet 0 "mixed") (dC (.int 69621))) (dC (.int 11))) (dC (.int 2147483629))))
  (dSeq (dSet 2 (dOp fMod (dOp fMul (dDrawGet 0 "mixed") (dDrawGet 0 "mixed")) (dC (.int 2147483587))))
  (dRet (dOp fMod (dOp fDiv (dVar 2) (dC (.int 7))) (dVar 1))))))
/-! kept -/
abbrev N_w_kept : List Str := ["_law_words"]
def d_w_kept : DS :=
  (dSeq (dSet 0 (dC (.str "number truth name gap let fun call pair first second none add fold again if plus minus less same")))
  (dRet (dOp fAdd (dM1 fSplit (dVar 0) (dC (.str " "))) (dLst (dCons (dC (.str "yes")) (dCons (dC (.str "no")) (dCons (dC (.str "num")) (dCons (dC (.str "list")) (dCons (dC (.str "any")) dNil)))))))))
/-! any_name -/
abbrev N_w_any_name : List Str := ["_law_draw", "_law_letters", "_law_name", "_law_k"]
def d_w_any_name : DS :=
  (dSeq (dSet 1 (dC (.str "abcdefghijklmnopqrstuvwxyz")))
  (dSeq (dSet 2 (dM1 fJoin (dC (.str "")) (dLc (dRng1 (dCons (dOp fAdd (dC (.int 1)) (dCall sp_w_next (dCons (dVarM 0) (dCons (dC (.int 6)) dNil)))) dNil)) (gN 3) dYes (dOp fIx (dVar 1) (dCall sp_w_next (dCons (dVarM 0) (dCons (dC (.int 26)) dNil)))) [3])))
  (dRet (dOp fIx (dLst (dCons (dVarM 2) (dCons (dOp fAdd (dSl (dVar 2) dNo (dPart (dC (.int 5)))) (dC (.str "q"))) dNil))) (dUn fInt (dOp (fIn false) (dVar 2) (dCall sp_w_kept dNil)))))))
/-! some_names -/
abbrev N_w_some_names : List Str := ["_law_draw", "_law_many", "_law_letters", "_law_shift", "_law_found", "_law_k", "_law_name"]
def d_w_some_names : DS :=
  (dSeq (dSet 2 (dC (.str "abcdefghijklmnopqrstuvwxyz")))
  (dSeq (dSet 3 (dCall sp_w_next (dCons (dVarM 0) (dCons (dC (.int 26)) dNil))))
  (dSeq (dSet 4 (dLst dNil))
  (dSeq (dFor (dRng1 (dCons (dVarM 1) dNil)) (gN 5)
  (dSeq (dSet 6 (dOp fAdd (dOp fIx (dVar 2) (dOp fMod (dOp fAdd (dVar 3) (dVar 5)) (dC (.int 26)))) (dSl (dCall sp_w_any_name (dCons (dVarM 0) dNil)) dNo (dPart (dCall sp_w_next (dCons (dVarM 0) (dCons (dC (.int 6)) dNil)))))))
  (dSeq (dIfS (dAnd (dB (dOp fGt (dVar 5) (dC (.int 0)))) (dAnd (dB (dOp fLt (dUn fLen (dOp fIx (dVar 4) (dUn fNeg (dC (.int 1))))) (dC (.int 6)))) (dB (dOp fEq (dCall sp_w_next (dCons (dVarM 0) (dCons (dC (.int 3)) dNil))) (dC (.int 0))))))
  (dSet 6 (dOp fAdd (dOp fIx (dVar 4) (dUn fNeg (dC (.int 1)))) (dOp fIx (dVar 2) (dCall sp_w_next (dCons (dVarM 0) (dCons (dC (.int 26)) dNil))))))
  dNext)
  (dAppend 4 (dOp fIx (dLst (dCons (dVarM 6) (dCons (dOp fAdd (dSl (dVar 6) dNo (dPart (dC (.int 5)))) (dC (.str "q"))) dNil))) (dUn fInt (dOp (fIn false) (dVar 6) (dCall sp_w_kept dNil))))))))
  (dRetV 4)))))
/-! pick -/
abbrev N_w_pick : List Str := ["_law_draw", "_law_some"]
def d_w_pick : DS :=
  (dRet (dOp fIx (dVar 1) (dCall sp_w_next (dCons (dVarM 0) (dCons (dUn fLen (dVar 1)) dNil)))))
/-! any_number -/
abbrev N_w_any_number : List Str := ["_law_draw", "_law_some"]
def d_w_any_number : DS :=
  (dSeq (dSet 1 (dLst (dCons (dOp fSub (dCall sp_w_next (dCons (dVarM 0) (dCons (dC (.int 12)) dNil))) (dC (.int 3))) (dCons (dOp fSub (dOp fSub (dOp fPow (dC (.int 10)) (dC (.int 60))) (dC (.int 1))) (dCall sp_w_next (dCons (dVarM 0) (dCons (dC (.int 9)) dNil)))) (dCons (dOp fSub (dC (.int 0)) (dCall sp_w_next (dCons (dVarM 0) (dCons (dOp fPow (dC (.int 10)) (dC (.int 20))) dNil)))) (dCons (dC (.int 0)) (dCons (dC (.int 1)) dNil)))))))
  (dFz 1 (dRet (dCall sp_w_pick (dCons (dVarM 0) (dCons (dVarM 1) dNil))))))
/-! leaf -/
abbrev N_w_leaf : List Str := ["_law_draw", "_law_names", "_law_way"]
def d_w_leaf : DS :=
  (dSeq (dSet 2 (dCall sp_w_next (dCons (dVarM 0) (dCons (dC (.int 7)) dNil))))
  (dSeq (dIfS (dB (dOp fEq (dVar 2) (dC (.int 0))))
  (dRet (dTup (dCons (dC (.str "number")) (dCons (dCall sp_w_any_number (dCons (dVarM 0) dNil)) dNil))))
  dNext)
  (dSeq (dIfS (dB (dOp fEq (dVar 2) (dC (.int 1))))
  (dRet (dTup (dCons (dC (.str "truth")) (dCons (dOp fEq (dCall sp_w_next (dCons (dVarM 0) (dCons (dC (.int 2)) dNil))) (dC (.int 1))) dNil))))
  dNext)
  (dSeq (dIfS (dB (dOp fEq (dVar 2) (dC (.int 2))))
  (dRet (dTup (dCons (dC (.str "none")) dNil)))
  dNext)
  (dSeq (dIfS (dB (dOp fEq (dVar 2) (dC (.int 3))))
  (dRet (dTup (dCons (dC (.str "gap")) (dCons (dCall sp_w_pick (dCons (dVarM 0) (dCons (dVarM 1) dNil))) dNil))))
  dNext)
  (dRet (dTup (dCons (dC (.str "name")) (dCons (dCall sp_w_pick (dCons (dVarM 0) (dCons (dVarM 1) dNil))) dNil)))))))))
/-! signs -/
abbrev N_w_signs : List Str := ["_law_word", "_law_found"]
def d_w_signs : DS :=
  (dSeq (dSet 1 (dDisp [((dC (.str "number")), (dC (.str "v"))), ((dC (.str "truth")), (dC (.str "b"))), ((dC (.str "name")), (dC (.str "x"))), ((dC (.str "gap")), (dC (.str "x"))), ((dC (.str "let")), (dC (.str "xtt"))), ((dC (.str "fun")), (dC (.str "xt"))), ((dC (.str "call")), (dC (.str "tt")))]))
  (dSeq (dUpdate 1 (dDisp [((dC (.str "pair")), (dC (.str "tt"))), ((dC (.str "first")), (dC (.str "t"))), ((dC (.str "second")), (dC (.str "t"))), ((dC (.str "none")), (dC (.str ""))), ((dC (.str "add")), (dC (.str "tt"))), ((dC (.str "fold")), (dC (.str "ttxxt")))]))
  (dSeq (dUpdate 1 (dDisp [((dC (.str "again")), (dC (.str "ttxt"))), ((dC (.str "if")), (dC (.str "ttt"))), ((dC (.str "plus")), (dC (.str "tt"))), ((dC (.str "minus")), (dC (.str "tt"))), ((dC (.str "less")), (dC (.str "tt"))), ((dC (.str "same")), (dC (.str "tt")))]))
  (dRet (dGet2 (dVar 1) (dVar 0) (dC .non))))))
/-! any_term -/
abbrev N_w_any_term : List Str := ["_law_draw", "_law_names", "_law_deep", "_law_some", "_law_word", "_law_found", "_law_sign"]
def d_w_any_term (n : Nat) : DS :=
  (dSeq (dIfS (dOr (dB (dOp fLt (dVar 2) (dC (.int 2)))) (dB (dOp fEq (dCall sp_w_next (dCons (dVarM 0) (dCons (dC (.int 5)) dNil))) (dC (.int 0)))))
  (dRet (dCall sp_w_leaf (dCons (dVarM 0) (dCons (dVarM 1) dNil))))
  dNext)
  (dSeq (dSet 3 (dLst (dCons (dC (.str "let")) (dCons (dC (.str "fun")) (dCons (dC (.str "call")) (dCons (dC (.str "pair")) (dCons (dC (.str "first")) (dCons (dC (.str "second")) (dCons (dC (.str "add")) (dCons (dC (.str "fold")) (dCons (dC (.str "again")) (dCons (dC (.str "if")) (dCons (dC (.str "plus")) (dCons (dC (.str "minus")) (dCons (dC (.str "less")) dNil)))))))))))))))
  (dSeq (dSet 4 (dCall sp_w_pick (dCons (dVarM 0) (dCons (dSh (dOp fAdd (dVar 3) (dLst (dCons (dC (.str "same")) (dCons (dC (.str "let")) (dCons (dC (.str "fold")) dNil)))))) dNil))))
  (dSeq (dSet 5 (dLst (dCons (dVarM 4) dNil)))
  (dSeq (dFor (dIt (dCall sp_w_signs (dCons (dVarM 4) dNil))) (gN 6)
  (dIfS (dB (dOp fEq (dVar 6) (dC (.str "t"))))
  (dAppend 5 (dCall (sp_w_any_term n) (dCons (dVarM 0) (dCons (dVarM 1) (dCons (dOp fSub (dVar 2) (dC (.int 1))) dNil)))))
  (dAppend 5 (dCall sp_w_pick (dCons (dVarM 0) (dCons (dVarM 1) dNil))))))
  (dSeq (dIfS (dAnd (dB (dOp fEq (dVar 4) (dC (.str "fold")))) (dB (dOp fEq (dOp fIx (dVar 5) (dC (.int 3))) (dOp fIx (dVar 5) (dC (.int 4))))))
  (dPutI 5 (dC (.int 4)) (dOp fIx (dVar 1) (dUn fInt (dOp fEq (dOp fIx (dVar 5) (dC (.int 3))) (dOp fIx (dVar 1) (dC (.int 0)))))))
  dNext)
  (dRet (dUn fTuple (dVar 5)))))))))
/-! wide -/
abbrev N_w_wide : List Str := ["_law_many", "_law_leaf_here"]
def d_w_wide (n : Nat) : DS :=
  (dSeq (dIfS (dB (dOp fEq (dVar 0) (dC (.int 1))))
  (dRetV 1)
  dNext)
  (dSeq (dIfS (dB (dOp fEq (dOp fMod (dVar 0) (dC (.int 2))) (dC (.int 0))))
  (dRet (dTup (dCons (dC (.str "first")) (dCons (dCall (sp_w_wide n) (dCons (dOp fSub (dVar 0) (dC (.int 1))) (dCons (dVarM 1) dNil))) dNil))))
  dNext)
  (dRet (dTup (dCons (dC (.str "pair")) (dCons (dCall (sp_w_wide n) (dCons (dOp fDiv (dVar 0) (dC (.int 2))) (dCons (dVarM 1) dNil))) (dCons (dCall (sp_w_wide n) (dCons (dOp fSub (dOp fSub (dVar 0) (dC (.int 1))) (dOp fDiv (dVar 0) (dC (.int 2)))) (dCons (dVarM 1) dNil))) dNil)))))))
/-! chain -/
abbrev N_w_chain : List Str := ["_law_deep", "_law_leaf_here", "_law_k"]
def d_w_chain : DS :=
  (dSeq (dFor (dRng1 (dCons (dOp fSub (dVar 0) (dC (.int 1))) dNil)) (gN 2)
  (dSet 1 (dTup (dCons (dC (.str "second")) (dCons (dVarM 1) dNil)))))
  (dRetV 1))
/-! odd -/
abbrev N_w_odd : List Str := ["_law_draw", "_law_names", "_law_one", "_law_some"]
def d_w_odd : DS :=
  (dSeq (dSet 2 (dTup (dCons (dC (.str "none")) dNil)))
  (dSeq (dSet 3 (dLst (dCons (dC .non) (dCons (dC (.bl true)) (dCons (dC (.bl false)) (dCons (dC (.int 0)) (dCons (dC (.int 1)) (dCons (dUn fNeg (dC (.int 5))) (dCons (dC (.str "x")) (dCons (dC (.str "if")) (dCons (dC (.str "")) (dCons (dTup dNil) (dCons (dSh (dLst dNil)) (dCons (dSh dNewD) (dCons (dVarM 2) (dCons (dSh (dLst (dCons (dC (.str "none")) dNil))) (dCons (dTup (dCons (dC (.str "none")) (dCons (dC (.int 1)) dNil))) (dCons (dTup (dCons (dC (.str "None")) dNil)) (dCons (dTup (dCons (dC .non) dNil)) dNil)))))))))))))))))))
  (dSeq (dSet 3 (dOp fAdd (dVar 3) (dLst (dCons (dTup (dCons (dC (.str "number")) (dCons (dC (.bl true)) dNil))) (dCons (dTup (dCons (dC (.str "number")) (dCons (dC (.str "1")) dNil))) (dCons (dTup (dCons (dC (.str "truth")) (dCons (dC (.int 1)) dNil))) (dCons (dTup (dCons (dC (.str "truth")) (dCons (dC (.int 0)) dNil))) (dCons (dTup (dCons (dC (.str "truth")) (dCons (dC (.bl false)) dNil))) (dCons (dTup (dCons (dC (.str "name")) (dCons (dC (.str "no")) dNil))) dNil)))))))))
  (dSeq (dSet 3 (dOp fAdd (dVar 3) (dLst (dCons (dTup (dCons (dC (.str "gap")) (dCons (dC (.str "")) dNil))) (dCons (dTup (dCons (dC (.str "name")) (dCons (dSh (dLst (dCons (dC (.str "x")) dNil))) dNil))) (dCons (dTup (dCons (dC (.str "first")) dNil)) (dCons (dTup (dCons (dC (.str "first")) (dCons (dVarM 2) (dCons (dVarM 2) dNil)))) (dCons (dTup (dCons (dC (.str "fun")) (dCons (dVarM 2) (dCons (dVarM 2) dNil)))) (dCons (dTup (dCons (dC (.str "pair")) (dCons (dVarM 2) dNil))) dNil)))))))))
  (dSeq (dSet 3 (dOp fAdd (dVar 3) (dLst (dCons (dTup (dCons (dC (.str "fold")) (dCons (dVarM 2) (dCons (dVarM 2) (dCons (dC (.str "x")) (dCons (dC (.str "x")) (dCons (dVarM 2) dNil))))))) (dCons (dTup (dCons (dC (.str "fold")) (dCons (dVarM 2) (dCons (dVarM 2) (dCons (dC (.str "x")) (dCons (dC (.str "y")) (dCons (dVarM 2) dNil))))))) (dCons (dTup (dCons (dC (.str "let")) (dCons (dC (.str "x")) (dCons (dVarM 2) dNil)))) (dCons (dOp fIx (dVar 1) (dC (.int 0))) dNil)))))))
  (dRet (dCall sp_w_pick (dCons (dVarM 0) (dCons (dSh (dOp fAdd (dVar 3) (dLst (dCons (dTup (dCons (dC (.str "again")) (dCons (dVarM 2) (dCons (dVarM 2) (dCons (dC (.str "x")) dNil))))) (dCons (dTup (dCons (dC (.str "if")) (dCons (dVarM 2) (dCons (dVarM 2) dNil)))) (dCons (dTup (dCons (dC (.str "add")) (dCons (dSh (dLst (dCons (dVarM 2) dNil))) (dCons (dVarM 2) dNil)))) (dCons (dTup (dCons (dTup (dCons (dC (.str "none")) dNil)) dNil)) dNil))))))) dNil)))))))))
/-! bent -/
abbrev N_w_bent : List Str := ["_law_draw", "_law_thing", "_law_names", "_law_at", "_law_way"]
def d_w_bent (n : Nat) : DS :=
  (dSeq (dIfS (dOr (dNot (dB (dUn (fIsi .tuple) (dVar 1)))) (dOr (dB (dOp fEqE (dVar 1) (dTup dNil))) (dB (dOp fEq (dCall sp_w_next (dCons (dVarM 0) (dCons (dC (.int 6)) dNil))) (dC (.int 0))))))
  (dRet (dCall sp_w_odd (dCons (dVarM 0) (dCons (dVarM 2) dNil))))
  dNext)
  (dSeq (dSet 3 (dCall sp_w_next (dCons (dVarM 0) (dCons (dUn fLen (dVar 1)) dNil))))
  (dSeq (dSet 4 (dCall sp_w_next (dCons (dVarM 0) (dCons (dC (.int 9)) dNil))))
  (dSeq (dIfS (dB (dOp fEq (dVar 4) (dC (.int 0))))
  (dRet (dOp fAdd (dSl (dVar 1) dNo (dPart (dVar 3))) (dSl (dVar 1) (dPart (dOp fAdd (dVar 3) (dC (.int 1)))) dNo)))
  dNext)
  (dSeq (dIfS (dB (dOp fEq (dVar 4) (dC (.int 1))))
  (dRet (dOp fAdd (dSl (dVar 1) dNo (dPart (dOp fAdd (dVar 3) (dC (.int 1))))) (dSl (dVar 1) (dPart (dVar 3)) dNo)))
  dNext)
  (dSeq (dIfS (dB (dOp fEq (dVar 4) (dC (.int 2))))
  (dRet (dUn fList (dVar 1)))
  dNext)
  (dRet (dOp fAdd (dOp fAdd (dSl (dVar 1) dNo (dPart (dVar 3))) (dTup (dCons (dSh (dCall (sp_w_bent n) (dCons (dVarM 0) (dCons (dOp fIx (dVar 1) (dVar 3)) (dCons (dVarM 2) dNil))))) dNil))) (dSl (dVar 1) (dPart (dOp fAdd (dVar 3) (dC (.int 1)))) dNo)))))))))
/-! is_name -/
abbrev N_is_name : List Str := ["thing", "sign"]
def d_is_name : DS :=
  (dSeq (dIfS (dOr (dNot (dB (dUn (fIsi .str) (dVar 0)))) (dOr (dNot (dB (dChain fLe fLe (dC (.int 1)) (dUn fLen (dVar 0)) (dC g_MOST_LETTERS)))) (dB (dOp (fIn false) (dVar 0) (dC g_KEPT)))))
  (dRet (dC (.bl false)))
  dNext)
  (dRet (dUn fAll (dLc (dIt (dVarM 0)) (gN 1) dYes (dOp (fIn false) (dVar 1) (dC g_LETTERS)) [1]))))
/-! is_single -/
abbrev N_is_single : List Str := ["sign", "thing"]
def d_is_single : DS :=
  (dSeq (dIfS (dB (dOp fEq (dVar 0) (dC (.str "x"))))
  (dRet (dCall sp_is_name (dCons (dVarM 1) dNil)))
  dNext)
  (dRet (dAndV (dUn (fIsi .int) (dVar 1)) (dOp fEq (dUn (fIsi .bool) (dVar 1)) (dOp fEq (dVar 0) (dC (.str "b")))))))
/-! left_behind -/
abbrev N_left_behind : List Str := ["thing", "left", "levels", "signs", "sign", "part"]
def d_left_behind (n : Nat) : DS :=
  (dSeq (dIfS (dOr (dB (dOp fLt (dVar 1) (dC (.int 1)))) (dOr (dB (dOp fLt (dVar 2) (dC (.int 1)))) (dOr (dNot (dB (dUn (fIsi .tuple) (dVar 0)))) (dOr (dB (dOp fEqE (dVar 0) (dTup dNil))) (dNot (dB (dUn (fIsi .str) (dOp fIx (dVar 0) (dC (.int 0))))))))))
  (dRet (dUn fNeg (dC (.int 1))))
  dNext)
  (dSeq (dSet 3 (dKGet tab_SIGNS (dOp fIx (dVar 0) (dC (.int 0))) (dC .non)))
  (dSeq (dIfS (dOr (dB (dOp fIs (dVar 3) (dC .non))) (dB (dOp fNe (dUn fLen (dVar 0)) (dOp fAdd (dUn fLen (dVar 3)) (dC (.int 1))))))
  (dRet (dUn fNeg (dC (.int 1))))
  dNext)
  (dSeq (dSet 1 (dOp fSub (dVar 1) (dC (.int 1))))
  (dSeq (dFor (dZip (dCons (dVarM 3) (dCons (dSl (dVar 0) (dPart (dC (.int 1))) dNo) dNil))) (gT2 4 5)
  (dSeq (dIfS (dB (dOp fEq (dVar 4) (dC (.str "t"))))
  (dSet 1 (dCall (sp_left_behind n) (dCons (dVarM 5) (dCons (dVarM 1) (dCons (dOp fSub (dVar 2) (dC (.int 1))) dNil)))))
  (dIfS (dNot (dB (dCall sp_is_single (dCons (dVarM 4) (dCons (dVarM 5) dNil)))))
  (dSet 1 (dUn fNeg (dC (.int 1))))
  dNext))
  (dIfS (dB (dOp fLt (dVar 1) (dC (.int 0))))
  (dRet (dUn fNeg (dC (.int 1))))
  dNext)))
  (dSeq (dIfS (dAnd (dB (dOp fEq (dOp fIx (dVar 0) (dC (.int 0))) (dC (.str "fold")))) (dB (dOp fEq (dOp fIx (dVar 0) (dC (.int 3))) (dOp fIx (dVar 0) (dC (.int 4))))))
  (dRet (dUn fNeg (dC (.int 1))))
  dNext)
  (dRetV 1)))))))
/-! is_term -/
abbrev N_is_term : List Str := ["thing"]
def d_is_term : DS :=
  (dRet (dOp fGe (dCall (sp_left_behind 41) (dCons (dVarM 0) (dCons (dC g_MOST_PARTS) (dCons (dC g_MOST_DEEP) dNil)))) (dC (.int 0))))
/-! is_name -/
abbrev N_w_is_name : List Str := ["_law_thing", "_law_sign"]
def d_w_is_name : DS :=
  (dSeq (dIfS (dOr (dNot (dB (dUn (fIsi .str) (dVar 0)))) (dOr (dNot (dB (dChain fLe fLe (dC (.int 1)) (dUn fLen (dVar 0)) (dC (.int 6))))) (dB (dOp (fIn false) (dVar 0) (dCall sp_w_kept dNil)))))
  (dRet (dC (.bl false)))
  dNext)
  (dRet (dOp fEqE (dLc (dIt (dVarM 0)) (gN 1) (dB (dOp (fIn true) (dVar 1) (dC (.str "abcdefghijklmnopqrstuvwxyz")))) (dVarM 1) [1]) (dLst dNil))))
/-! look -/
abbrev N_w_look : List Str := ["_law_thing", "_law_deep", "_law_signs_here", "_law_many", "_law_sign", "_law_part", "_law_good"]
def d_w_look (n : Nat) : DS :=
  (dSeq (dIfS (dOr (dB (dOp fEq (dVar 1) (dC (.int 0)))) (dOr (dNot (dB (dUn (fIsi .tuple) (dVar 0)))) (dOr (dB (dOp fEqE (dVar 0) (dTup dNil))) (dNot (dB (dUn (fIsi .str) (dOp fIx (dVar 0) (dC (.int 0)))))))))
  (dRet (dC (.int 1000)))
  dNext)
  (dSeq (dSet 2 (dCall sp_w_signs (dCons (dOp fIx (dVar 0) (dC (.int 0))) dNil)))
  (dSeq (dIfS (dOr (dB (dOp fIs (dVar 2) (dC .non))) (dB (dOp fNe (dUn fLen (dVar 0)) (dOp fAdd (dUn fLen (dVar 2)) (dC (.int 1))))))
  (dRet (dC (.int 1000)))
  dNext)
  (dSeq (dSet 3 (dC (.int 1)))
  (dSeq (dFor (dZip (dCons (dVarM 2) (dCons (dSl (dVar 0) (dPart (dC (.int 1))) dNo) dNil))) (gT2 4 5)
  (dSeq (dSet 6 (dAndV (dUn (fIsi .int) (dVar 5)) (dOp fEq (dUn (fIsi .bool) (dVar 5)) (dOp fEq (dVar 4) (dC (.str "b"))))))
  (dSeq (dIfS (dB (dOp fEq (dVar 4) (dC (.str "x"))))
  (dSet 6 (dCall sp_w_is_name (dCons (dVarM 5) dNil)))
  dNext)
  (dIfS (dB (dOp fEq (dVar 4) (dC (.str "t"))))
  (dSet 3 (dOp fAdd (dVar 3) (dCall (sp_w_look n) (dCons (dVarM 5) (dCons (dOp fSub (dVar 1) (dC (.int 1))) dNil)))))
  (dIfS (dNot (dTru (dVar 6)))
  (dRet (dC (.int 1000)))
  dNext)))))
  (dRet (dIf (dAnd (dB (dOp fEq (dOp fIx (dVar 0) (dC (.int 0))) (dC (.str "fold")))) (dB (dOp fEq (dOp fIx (dVar 0) (dC (.int 3))) (dOp fIx (dVar 0) (dC (.int 4)))))) (dC (.int 1000)) (dVarM 3))))))))
/-! right -/
abbrev N_w_right : List Str := ["_law_thing", "_law_found"]
def d_w_right : DS :=
  (dSeq (dSet 1 (dCall sp_is_term (dCons (dVarM 0) dNil)))
  (dRet (dAndV (dUn (fIsi .bool) (dVar 1)) (dAndV (dOp fEq (dVar 1) (dOp fLe (dCall (sp_w_look 41) (dCons (dVarM 0) (dCons (dC (.int 40)) dNil))) (dC (.int 200)))) (dOp fEq (dCall sp_is_term (dCons (dVarM 0) dNil)) (dVar 1))))))
/-! law -/
abbrev N_law : List Str := ["_law_script", "_law_k", "_law_draw", "_law_names", "_law_term", "_law_some", "_law_wide_here", "_law_chain_here", "_law_thing"]
def d_law : DS :=
  (dSeq (dFor (dRng1 (dCons (dOp fMax (dC (.int 1)) (dOp fMin (dUn fLen (dVar 0)) (dC (.int 12)))) dNil)) (gN 1)
  (dSeq (dSet 2 (dCall sp_w_begun (dCons (dVarM 0) (dCons (dVarM 1) dNil))))
  (dSeq (dSet 3 (dCall sp_w_some_names (dCons (dVarM 2) (dCons (dC (.int 4)) dNil))))
  (dSeq (dFz 3 (dSet 4 (dCall (sp_w_any_term 6) (dCons (dVarM 2) (dCons (dVarM 3) (dCons (dC (.int 5)) dNil))))))
  (dSeq (dFz 3 (dSet 5 (dLst (dCons (dVarM 4) (dCons (dSh (dCall (sp_w_bent 210) (dCons (dVarM 2) (dCons (dVarM 4) (dCons (dVarM 3) dNil))))) (dCons (dSh (dCall (sp_w_bent 210) (dCons (dVarM 2) (dCons (dCall (sp_w_any_term 6) (dCons (dVarM 2) (dCons (dVarM 3) (dCons (dC (.int 5)) dNil)))) (dCons (dVarM 3) dNil))))) dNil))))))
  (dSeq (dFz 3 (dSet 6 (dCall (sp_w_wide 201) (dCons (dOp fAdd (dC (.int 199)) (dCall sp_w_next (dCons (dVarM 2) (dCons (dC (.int 3)) dNil)))) (dCons (dCall sp_w_leaf (dCons (dVarM 2) (dCons (dVarM 3) dNil))) dNil)))))
  (dSeq (dFz 3 (dSet 7 (dCall sp_w_chain (dCons (dOp fAdd (dC (.int 39)) (dCall sp_w_next (dCons (dVarM 2) (dCons (dC (.int 3)) dNil)))) (dCons (dCall sp_w_leaf (dCons (dVarM 2) (dCons (dVarM 3) dNil))) dNil)))))
  (dSeq (dFz 3 (dSet 5 (dOp fAdd (dVar 5) (dLst (dCons (dVarM 6) (dCons (dVarM 7) (dCons (dSh (dCall (sp_w_bent 210) (dCons (dVarM 2) (dCons (dVarM 6) (dCons (dVarM 3) dNil))))) (dCons (dSh (dCall (sp_w_bent 210) (dCons (dVarM 2) (dCons (dVarM 7) (dCons (dVarM 3) dNil))))) (dCons (dCall sp_w_odd (dCons (dVarM 2) (dCons (dVarM 3) dNil))) dNil)))))))))
  (dFz 5 (dIfS (dNot (dB (dUn fAll (dLc (dIt (dVarM 5)) (gN 8) dYes (dCall sp_w_right (dCons (dVarM 8) dNil)) [8]))))
  (dRet (dC (.bl false)))
  dNext))))))))))
  (dRet (dC (.bl true))))
theorem len_w_cell_at : ∀ ds xc R, sp_w_cell_at ds xc R → ds.length = 2 := by
  rintro ds xc R ⟨ns, k, rfl, _⟩
  rfl
theorem pure_w_cell_at : ∀ ds xc R, sp_w_cell_at ds xc R → d_w_cell_at X0 { nx := fun _ => R (.dat .non), rt := R } (args N_w_cell_at ds) := by
  rintro ds xc R ⟨ns, k, rfl, h0, q⟩
  show d_w_cell_at X0 _ [some (.dat (.scr ns)), some (.dat (.int k))]
  unfold d_w_cell_at
  walk_at "dl"
  refine ifB_dec (fun h => ?_) (fun _ => q 0)
  obtain ⟨n, hn, _⟩ := atI_get (l := ns) h0 h
  exact onO_of hn (q n)
theorem len_w_begun : ∀ ds xc R, sp_w_begun ds xc R → ds.length = 2 := by
  rintro ds xc R ⟨ns, k, rfl, _⟩
  rfl
theorem pow18 : CPow 10 18 := ⟨by decide, by decide, by decide⟩
theorem pure_w_begun : ∀ ds xc R, sp_w_begun ds xc R → d_w_begun X0 { nx := fun _ => R (.dat .non), rt := R } (args N_w_begun ds) := by
  rintro ds xc R ⟨ns, k, rfl, h0, h1, q⟩
  show d_w_begun X0 _ [some (.dat (.scr ns)), some (.dat (.int k)), none, none]
  unfold d_w_begun
  walk_at "dl"
  refine ⟨ns, k, rfl, h0, fun n => ?_⟩
  walk_at "dl"
  generalize (if n < 0 then -n else n) = c
  have a1 := Int.emod_nonneg c (show (2147483629 : Int) ≠ 0 by decide)
  have a2 := Int.emod_lt_of_pos c (show (0 : Int) < 2147483629 by decide)
  generalize c % 2147483629 = m at a1 a2
  have b1 := Int.emod_nonneg (m * 48271 + 7919 * k + 104729) (show (2147483647 : Int) ≠ 0 by decide)
  have b2 := Int.emod_lt_of_pos (m * 48271 + 7919 * k + 104729) (show (0 : Int) < 2147483647 by decide)
  refine ⟨by decide, mulOk (by omega) (by decide), mulOk (by decide) (by omega), by decide, pow18, mulOk (by omega) (by omega), mulOk (by decide) (by omega), by decide, ?_⟩
  generalize (m * 48271 + 7919 * k + 104729) % 2147483647 = x
  have c1 := Int.emod_nonneg (x * x + 69621 * k) (show (2147483629 : Int) ≠ 0 by decide)
  have c2 := Int.emod_lt_of_pos (x * x + 69621 * k) (show (0 : Int) < 2147483629 by decide)
  refine onO_of rfl ⟨by show 2 ≤ 15; decide, ⟨_, _, [], rfl, ?_, c1, by omega, Nat.zero_le _, fun p h => (nomatch h)⟩, q⟩
  split <;> omega
theorem len_w_next : ∀ ds xc R, sp_w_next ds xc R → ds.length = 2 := by
  rintro ds xc R ⟨n, rfl, _⟩
  rfl
theorem pure_w_next : ∀ ds xc R, sp_w_next ds xc R → d_w_next X0 { nx := fun _ => R (.dat .non), rt := R } (args N_w_next ds) := by
  rintro ds xc R ⟨n, rfl, h0, h1, q⟩
  show d_w_next X0 _ [some (.dat .draw), some (.dat (.int n)), none, none]
  unfold d_w_next
  walk_at "dl"
  intro a ha
  refine ifB_dec (fun _ => ?_) (fun _ => ?_)
  · intro b hb
    refine ⟨h0, fun c hc => ⟨divOk h0 h1, ⟨Int.ediv_nonneg hc.1 (by omega), fun z => absurd z key_ne⟩, q _ (Int.emod_nonneg _ (by omega)) (Int.emod_lt_of_pos _ h0)⟩⟩
  · intro b hb
    have hb2 := hb.2 rfl
    have hb1 := hb.1
    have c1 := Int.emod_nonneg (b * 69621 + 11) (show (2147483629 : Int) ≠ 0 by decide)
    have c2 := Int.emod_lt_of_pos (b * 69621 + 11) (show (0 : Int) < 2147483629 by decide)
    refine ⟨mulOk (by omega) (by decide), by decide, ⟨c1, fun _ => by omega⟩, fun c hc d hd => ?_⟩
    have hc2 := hc.2 rfl
    have hc1 := hc.1
    have hd2 := hd.2 rfl
    have hd1 := hd.1
    exact ⟨mulOk (by omega) (by omega), by decide, divOk (by decide) (by decide), h0, q _ (Int.emod_nonneg _ (by omega)) (Int.emod_lt_of_pos _ h0)⟩
theorem len_w_pick : ∀ ds xc R, sp_w_pick ds xc R → ds.length = 2 := by
  rintro ds xc R ⟨c, l, rfl, _⟩
  rfl
theorem pure_w_pick : ∀ ds xc R, sp_w_pick ds xc R → d_w_pick X0 { nx := fun _ => R (.dat .non), rt := R } (args N_w_pick ds) := by
  rintro ds xc R ⟨c, l, rfl, hc, h0, h1, q⟩
  show d_w_pick X0 _ [some (.dat .draw), some (.dat c)]
  unfold d_w_pick
  rcases hc with rfl | rfl
  · walk_at "dl"
    refine ⟨_, rfl, by omega, by omega, fun r r0 r1 => ?_⟩
    walk_at "dl"
    obtain ⟨d, hd, hm⟩ := atI_get (l := l) r0 r1
    exact onO_of hd (q d hm)
  · walk_at "dl"
    refine ⟨_, rfl, by omega, by omega, fun r r0 r1 => ?_⟩
    walk_at "dl"
    obtain ⟨d, hd, hm⟩ := atI_get (l := l) r0 r1
    exact onO_of hd (q d hm)
theorem len_w_kept : ∀ ds xc R, sp_w_kept ds xc R → ds.length = 0 := by
  rintro ds xc R ⟨rfl, _⟩
  rfl
theorem kept_split : (Txt.split "number truth name gap let fun call pair first second none add fold again if plus minus less same" " ") ++ (["yes", "no", "num", "list", "any"] : List Str) = KEPTL := by decide +kernel
theorem kept_len : ((Txt.split "number truth name gap let fun call pair first second none add fold again if plus minus less same" " ")).length = 19 := by decide +kernel
theorem pure_w_kept : ∀ ds xc R, sp_w_kept ds xc R → d_w_kept X0 { nx := fun _ => R (.dat .non), rt := R } (args N_w_kept ds) := by
  rintro ds xc R ⟨rfl, q⟩
  show d_w_kept X0 _ [none]
  unfold d_w_kept
  walk_at "dl"
  refine ⟨⟨by decide, by decide⟩, by show 5 ≤ sizeLine; decide, ?_, ?_⟩
  · rw [List.length_map, kept_len]
    show 19 + 5 ≤ sizeLine
    decide
  · rw [← kept_split, List.map_append] at q
    exact q
theorem len_w_any_name : ∀ ds xc R, sp_w_any_name ds xc R → ds.length = 1 := by
  rintro ds xc R ⟨rfl, _⟩
  rfl
theorem pure_w_any_name : ∀ ds xc R, sp_w_any_name ds xc R → d_w_any_name X0 { nx := fun _ => R (.dat .non), rt := R } (args N_w_any_name ds) := by
  rintro ds xc R ⟨rfl, q⟩
  show d_w_any_name X0 _ [some (.dat .draw), none, none, none]
  unfold d_w_any_name
  walk_at "dl"
  refine ⟨6, rfl, by decide, by decide, fun n n0 n1 => ?_⟩
  walk_at "dl"
  refine ⟨⟨by omega, by omega⟩, lc_all (fun d => ∃ c ∈ LET.cps.toList, d = .str ⟨#[c]⟩) (by rw [rng_length]; omega) (fun x hx R hR => ?_) (fun acc hl hq => ?_)⟩
  · walk_at "dl"
    refine ⟨26, rfl, by decide, by decide, fun r r0 r1 => ?_⟩
    walk_at "dl"
    obtain ⟨c, hc, hm⟩ := atI_get (l := LET.cps.toList) r0 (by
      have h := let_len
      rw [Array.length_toList]
      show r < ((LET.length : Nat) : Int)
      rw [h]
      exact r1)
    exact ⟨by decide, onO_of hc (hR _ ⟨c, hm, rfl⟩)⟩
  · rw [rng_length] at hl
    obtain ⟨cs, rfl, hc⟩ := chars_of hq
    rw [List.length_map] at hl
    walk_at "dl"
    refine onO_of (strsOf_map (fun c => (⟨#[c]⟩ : Str)) cs) ?_
    have hj := join_chars cs
    generalize Txt.join "" (cs.map fun c => (⟨#[c]⟩ : Str)) = s at hj
    have hs : s.length = cs.length := by
      rw [← hj, Array.length_toList]
      rfl
    have hc5 := cutS_length s none (some 5)
    have e1 : ((cs.map fun c => (⟨#[c]⟩ : Str)).map fun x => x.length).sum = cs.length := by
      rw [List.map_map]
      clear hc hl hq hj hs
      induction cs with
      | nil => rfl
      | cons c r ih =>
        rw [List.map_cons, List.sum_cons, ih]
        show 1 + r.length = r.length + 1
        omega
    have hq : ("q" : Str).length = 1 := by decide
    refine ⟨by rw [e1, show ("" : Str).length = 0 by decide]; omega, small_sz (by omega), small_sz (by omega), by show 2 ≤ sizeLine; decide, rfl, ?_⟩
    walk_at "dl"
    refine ⟨⟨rfl, flat_strs _⟩, ?_⟩
    rw [inD_strs]
    have a1 : (1 : Int) ≤ n + 1 := by omega
    by_cases hk : s ∈ KEPTL
    · rw [decide_eq_true hk]
      have qq := List.all_eq_true.mp kept_q s hk
      exact onO_of rfl (q _ qq)
    · rw [decide_eq_false hk]
      refine onO_of rfl (q _ ?_)
      unfold nameS
      rw [decide_eq_true (show 1 ≤ s.length ∧ s.length ≤ 6 from ⟨by omega, by omega⟩), decide_eq_false hk]
      refine List.all_eq_true.mpr fun c hcm => decide_eq_true (hc c ?_)
      rw [← hj]
      exact hcm
theorem len_w_some_names : ∀ ds xc R, sp_w_some_names ds xc R → ds.length = 2 := by
  rintro ds xc R ⟨m, rfl, _⟩
  rfl
/-- a text of signs, made a name -/
theorem fix_name {s : Str} (h : 1 ≤ s.length ∧ s.length ≤ 6) (hc : ∀ c ∈ s.cps.toList, c ∈ LET.cps.toList) : nameS (if s ∈ KEPTL then cutS s none (some 5) ++ "q" else s) = true := by
  by_cases hk : s ∈ KEPTL
  · rw [if_pos hk]
    exact List.all_eq_true.mp kept_q s hk
  · rw [if_neg hk]
    unfold nameS
    rw [decide_eq_true h, decide_eq_false hk]
    exact List.all_eq_true.mpr fun c hcm => decide_eq_true (hc c hcm)
theorem name_chars {s : Str} (h : nameS s = true) : ∀ c ∈ s.cps.toList, c ∈ LET.cps.toList := by
  unfold nameS at h
  rw [Bool.and_eq_true, Bool.and_eq_true] at h
  exact fun c hc => of_decide_eq_true (List.all_eq_true.mp h.2 c hc)
theorem last_of {α : Type} (l : List α) (a : α) : atI (l ++ [a]) (-1) = some a := by
  have h : atI (l ++ [a]) (-1) = (l ++ [a])[l.length]? := by
    unfold atI ixN
    rw [List.length_append, List.length_singleton]
    rw [if_neg (by omega), if_pos (by omega)]
    show (l ++ [a])[(-1 + ((l.length + 1 : Nat) : Int)).toNat]? = _
    congr 1
    omega
  rw [h]
  simp
theorem rng_get {lo : Int} {n i : Nat} {x : D} (h : (rngD lo n)[i]? = some x) : x = .int (lo + i) ∧ i < n := by
  have hl : i < n := by
    have := (List.getElem?_eq_some_iff.mp h).1
    rw [rng_length] at this
    exact this
  unfold rngD at h
  rw [List.getElem?_map, List.getElem?_range hl] at h
  cases h
  exact ⟨rfl, hl⟩
theorem let_at {r : Int} (h0 : 0 ≤ r) (h1 : r < 26) : ∃ c, atI LET.cps.toList r = some c ∧ c ∈ LET.cps.toList := atI_get h0 (by
  have h := let_len
  rw [Array.length_toList]
  show r < ((LET.length : Nat) : Int)
  rw [h]
  exact h1)
theorem pure_w_some_names : ∀ ds xc R, sp_w_some_names ds xc R → d_w_some_names X0 { nx := fun _ => R (.dat .non), rt := R } (args N_w_some_names ds) := by
  rintro ds xc R ⟨m, rfl, m0, m1, q⟩
  show d_w_some_names X0 _ [some (.dat .draw), some (.dat (.int m)), none, none, none, none, none]
  unfold d_w_some_names
  rw [let_eq]
  refine seq_k fun K hK => ?_; walk_at "dl"
  subst hK
  refine seq_k fun K hK => ?_; walk_at "dl"
  refine ⟨26, rfl, by decide, by decide, fun sh s0 s1 => ?_⟩
  subst hK
  refine seq_k fun K hK => ?_; walk_at "dl"
  refine ⟨Nat.zero_le _, ?_⟩
  subst hK
  refine seq_k fun K hK => ?_; walk_at "dl"
  refine ⟨⟨by omega, by omega⟩, ?_⟩
  refine ⟨fun i r => ∃ (ns : List Str) (x5 x6 : Option Val), r = [some (.dat .draw), some (.dat (.int m)), some (.dat (.str LET)), some (.dat (.int sh)), some (.tmp (.lst (ns.map D.str))), x5, x6] ∧ ns.length = i ∧ i ≤ m.toNat ∧ ∀ s ∈ ns, nameS s = true, ⟨[], _, _, rfl, rfl, Nat.zero_le _, fun s h => nomatch h⟩, ?_, ?_⟩
  · rintro i x r hx ⟨ns, x5, x6, rfl, hl, hi, hn⟩
    obtain ⟨rfl, hlt⟩ := rng_get hx
    refine seq_k fun K hK => ?_; walk_at "dl"
    have c1 := Int.emod_nonneg (sh + (0 + (i : Int))) (show (26 : Int) ≠ 0 by decide)
    have c2 := Int.emod_lt_of_pos (sh + (0 + (i : Int))) (show (0 : Int) < 26 by decide)
    obtain ⟨ch, hch, hcm⟩ := let_at c1 c2
    refine ⟨by decide, small_sz (by rw [let_len]; decide), onO_of hch ⟨rfl, fun a ha => ?_⟩⟩
    walk_at "dl"
    refine ⟨6, rfl, by decide, by decide, fun k k0 k1 => ?_⟩
    walk_at "dl"
    have la := name_len ha
    have lc := cutS_length a none (some k)
    have lk5 : (cutS a none (some k)).length ≤ 5 := by
      unfold cutS
      show (List.take _ _).toArray.size ≤ 5
      rw [List.size_toArray, List.length_take]
      have e : HT.sIx a.length a.length (some k) - HT.sIx a.length 0 none ≤ 5 := by
        show (if k < 0 then (k + (a.length : Int)).toNat else min k.toNat a.length) - 0 ≤ 5
        rw [if_neg (by omega)]
        omega
      exact Nat.le_trans (Nat.min_le_left _ _) e
    have one1 : ((⟨#[ch]⟩ : Str)).length = 1 := rfl
    have s0c : ∀ c ∈ ((⟨#[ch]⟩ : Str) ++ cutS a none (some k)).cps.toList, c ∈ LET.cps.toList := fun c hc => by
      rw [app_toList] at hc
      rcases List.mem_append.mp hc with h | h
      · have e : c = ch := by simpa using h
        rw [e]; exact hcm
      · exact name_chars ha c (List.mem_of_mem_drop (List.mem_of_mem_take h))
    have s0l : 1 ≤ ((⟨#[ch]⟩ : Str) ++ cutS a none (some k)).length ∧ ((⟨#[ch]⟩ : Str) ++ cutS a none (some k)).length ≤ 6 := by
      rw [len_app, one1]
      omega
    refine ⟨small_sz (by omega), small_sz (by rw [one1]; omega), ?_⟩
    generalize hs0 : (⟨#[ch]⟩ : Str) ++ cutS a none (some k) = s0' at s0c s0l
    subst hK
    refine seq_k fun K hK => ?_; walk_at "dl"
    have fin : ∀ (s : Str) (x5 : Option Val), 1 ≤ s.length ∧ s.length ≤ 6 → (∀ c ∈ s.cps.toList, c ∈ LET.cps.toList) → K [some (.dat .draw), some (.dat (.int m)), some (.dat (.str LET)), some (.dat (.int sh)), some (.tmp (.lst (ns.map D.str))), x5, some (.dat (.str s))] := by
      intro s x5 hs hsc
      subst hK
      walk_at "dl"
      have hq : ("q" : Str).length = 1 := by decide
      have lc5 := cutS_length s none (some 5)
      refine ⟨small_sz (by omega), small_sz (by omega), by show 2 ≤ sizeLine; decide, rfl, ⟨rfl, flat_strs _⟩, ?_⟩
      rw [inD_strs]
      have fx := fix_name hs hsc
      have lm : (ns.map D.str).length < sizeLine := small_lt (by rw [List.length_map]; omega)
      by_cases hk : s ∈ KEPTL
      · rw [decide_eq_true hk]
        rw [if_pos hk] at fx
        refine onO_of rfl ⟨lm, ns ++ [cutS s none (some 5) ++ "q"], _, _, by rw [List.map_append]; rfl, by rw [List.length_append, hl]; rfl, hlt, fun z hz => ?_⟩
        rcases List.mem_append.mp hz with h | h
        · exact hn z h
        · rw [List.mem_singleton.mp h]; exact fx
      · rw [decide_eq_false hk]
        rw [if_neg hk] at fx
        refine onO_of rfl ⟨lm, ns ++ [s], _, _, by rw [List.map_append]; rfl, by rw [List.length_append, hl]; rfl, hlt, fun z hz => ?_⟩
        rcases List.mem_append.mp hz with h | h
        · exact hn z h
        · rw [List.mem_singleton.mp h]; exact fx
    refine ifB_dec (fun hj0 => ?_) (fun _ => fin s0' _ s0l s0c)
    obtain ⟨pre, z, hz⟩ : ∃ pre z, ns = pre ++ [z] := by
      rcases List.eq_nil_or_concat ns with h | ⟨p, z, h⟩
      · subst h
        have : (0 : Nat) = i := hl
        omega
      · exact ⟨p, z, by rw [h, List.concat_eq_append]⟩
    have hzn : nameS z = true := hn z (by rw [hz]; simp)
    have lz := name_len hzn
    have hlast : atI (ns.map D.str) (-1) = some (.str z) := by
      rw [hz, List.map_append]
      exact last_of _ _
    refine onO_of hlast ?_
    walk_at "dl"
    refine ⟨small_sz (by omega), ifB_dec (fun hz6 => ?_) (fun _ => fin s0' _ s0l s0c)⟩
    refine ⟨3, rfl, by decide, by decide, fun t t0 t1 => ?_⟩
    refine ⟨⟨rfl, rfl⟩, ifB_of (fun _ => ?_) (fun _ => fin s0' _ s0l s0c)⟩
    refine onO_of hlast ⟨26, rfl, by decide, by decide, fun u u0 u1 => ?_⟩
    walk_at "dl"
    obtain ⟨c3, hc3, hm3⟩ := let_at u0 u1
    have one3 : ((⟨#[c3]⟩ : Str)).length = 1 := rfl
    refine ⟨small_sz (by rw [let_len]; decide), onO_of hc3 ?_⟩
    refine ⟨small_sz (by rw [one3]; omega), fin _ _ (by rw [len_app, one3]; omega) fun c hc => ?_⟩
    rw [app_toList] at hc
    rcases List.mem_append.mp hc with h | h
    · exact name_chars hzn c h
    · have e : c = c3 := by simpa using h
      rw [e]; exact hm3
  · rintro r ⟨ns, x5, x6, rfl, hl, hi, hn⟩
    rw [rng_length] at hl hi
    subst hK
    walk_at "dl"
    exact q ns (by omega) hn
theorem len_w_any_number : ∀ ds xc R, sp_w_any_number ds xc R → ds.length = 1 := by
  rintro ds xc R ⟨rfl, _⟩
  rfl
theorem pow60 : CPow 10 60 := ⟨by decide, by decide, by decide⟩
theorem pow20 : CPow 10 20 := ⟨by decide, by decide, by decide⟩
theorem pure_w_any_number : ∀ ds xc R, sp_w_any_number ds xc R → d_w_any_number X0 { nx := fun _ => R (.dat .non), rt := R } (args N_w_any_number ds) := by
  rintro ds xc R ⟨rfl, q⟩
  show d_w_any_number X0 _ [some (.dat .draw), none]
  unfold d_w_any_number
  refine seq_k fun K hK => ?_; walk_at "dl"
  refine ⟨12, rfl, by decide, by decide, fun a a0 a1 => ?_⟩
  walk_at "dl"
  refine ⟨pow60, 9, rfl, by decide, by decide, fun b b0 b1 => ?_⟩
  walk_at "dl"
  refine ⟨pow20, _, rfl, by decide, by decide, fun c c0 c1 => ?_⟩
  walk_at "dl"
  refine ⟨by show 5 ≤ sizeLine; decide, ?_⟩
  subst hK
  walk_at "dl"
  refine ⟨trivial, _, _, rfl, .inl rfl, by show 0 < 5; decide, by show 5 < 100000; decide, fun d hd => ?_⟩
  simp only [List.mem_cons, List.not_mem_nil, or_false] at hd
  rcases hd with rfl | rfl | rfl | rfl | rfl <;> exact q _
theorem len_w_leaf : ∀ ds xc R, sp_w_leaf ds xc R → ds.length = 2 := by
  rintro ds xc R ⟨ns, rfl, _⟩
  rfl
theorem gd_name {k n : Nat} {s : Str} (h : nameS s = true) : Gd k n (.str s) := gd_str (by have := name_len h; omega) (name_ok h)
theorem gd_two {k n : Nat} {s : Str} {d : D} (hk : 2 ≤ k) (h1 : s.length ≤ 1000) (h2 : okS s) (h : Gd k n d) : Gd k (n + 1) (.tup [.str s, d]) := gd_tup (fun x hx => by
  simp only [List.mem_cons, List.not_mem_nil, or_false] at hx
  rcases hx with rfl | rfl
  · exact gd_str h1 h2
  · exact h) hk
theorem pure_w_leaf : ∀ ds xc R, sp_w_leaf ds xc R → d_w_leaf X0 { nx := fun _ => R (.dat .non), rt := R } (args N_w_leaf ds) := by
  rintro ds xc R ⟨ns, rfl, ⟨h0, h1, hn⟩, q⟩
  show d_w_leaf X0 _ [some (.dat .draw), some (.dat (.lst (ns.map D.str))), none]
  unfold d_w_leaf
  refine seq_k fun K hK => ?_; walk_at "dl"
  refine ⟨7, rfl, by decide, by decide, fun a a0 a1 => ?_⟩
  subst hK
  refine seq_k fun K hK => ?_; walk_at "dl"
  have nm : ∀ w : Str, w.length ≤ 1000 → okS w → sp_w_pick [.draw, .lst (ns.map D.str)] (fun _ => False) fun x => asD (fun d => 2 ≤ sizeLine ∧ R (.dat (.tup [.str w, d]))) x := fun w hw ho => ⟨_, _, rfl, .inl rfl, by rw [List.length_map]; omega, by rw [List.length_map]; omega, fun d hd => by
    obtain ⟨s, hs, rfl⟩ := List.mem_map.mp hd
    exact ⟨by decide, q _ (gd_two (by decide) hw ho (gd_name (hn s hs)))⟩⟩
  refine ⟨⟨rfl, rfl⟩, ifB_of (fun _ => ?_) (fun _ => ?_)⟩
  · refine ⟨rfl, fun i => ?_⟩
    walk_at "dl"
    exact ⟨by show 2 ≤ sizeLine; decide, q _ (gd_two (by decide) (by decide) (by unfold okS; decide) (gd_int i))⟩
  subst hK
  refine seq_k fun K hK => ?_; walk_at "dl"
  refine ⟨⟨rfl, rfl⟩, ifB_of (fun _ => ?_) (fun _ => ?_)⟩
  · refine ⟨2, rfl, by decide, by decide, fun i _ _ => ?_⟩
    walk_at "dl"
    exact ⟨⟨rfl, rfl⟩, by show 2 ≤ sizeLine; decide, q _ (gd_two (by decide) (by decide) (by unfold okS; decide) (gd_bl _))⟩
  subst hK
  refine seq_k fun K hK => ?_; walk_at "dl"
  refine ⟨⟨rfl, rfl⟩, ifB_of (fun _ => ?_) (fun _ => ?_)⟩
  · refine ⟨by show 1 ≤ sizeLine; decide, q _ (gd_tup (fun x hx => ?_) (by show 1 ≤ 100; decide))⟩
    rw [List.mem_singleton.mp hx]
    exact gd_str (by decide) (by unfold okS; decide)
  subst hK
  refine seq_k fun K hK => ?_; walk_at "dl"
  refine ⟨⟨rfl, rfl⟩, ifB_of (fun _ => nm _ (by decide) (by unfold okS; decide)) (fun _ => ?_)⟩
  subst hK
  walk_at "dl"
  exact nm _ (by decide) (by unfold okS; decide)
theorem len_w_signs : ∀ ds xc R, sp_w_signs ds xc R → ds.length = 1 := by
  rintro ds xc R ⟨w, rfl, _⟩
  rfl
theorem pure_w_signs : ∀ ds xc R, sp_w_signs ds xc R → d_w_signs X0 { nx := fun _ => R (.dat .non), rt := R } (args N_w_signs ds) := by
  rintro ds xc R ⟨w, rfl, q⟩
  show d_w_signs X0 _ [some (.dat (.str w)), none]
  unfold d_w_signs
  refine seq_k fun K hK => ?_; walk_at "dl"
  refine onO_of rfl ⟨by show 7 ≤ 15; decide, ?_⟩
  rw [merge_new (by decide +kernel)]
  subst hK
  refine seq_k fun K hK => ?_; walk_at "dl"
  refine onO_of rfl ⟨by show 6 ≤ 15; decide, ?_⟩
  rw [merge_new (by decide +kernel)]
  refine ⟨by show 7 + 6 ≤ sizeLine; decide, ?_⟩
  rw [merge_app _ _ (by decide +kernel)]
  subst hK
  walk_at "dl"
  refine onO_of rfl ⟨by show 6 ≤ 15; decide, ?_⟩
  rw [merge_new (by decide +kernel)]
  refine ⟨by show 13 + 6 ≤ sizeLine; decide, ?_⟩
  rw [merge_app _ _ (by decide +kernel)]
  show getP (valD (SGT.map fun p => ((.inr p.1 : Key), D.str p.2)) (.inr w)) (.dat .non) R
  rw [valD_map D.str w SGT]
  show getP ((sgn w).map D.str) (.dat .non) R
  cases e : sgn w with
  | none => rw [e] at q; exact q
  | some s => rw [e] at q; exact q
theorem len_w_any_term (n : Nat) : ∀ ds xc R, sp_w_any_term n ds xc R → ds.length = 3 := by
  rintro ds xc R ⟨ns, k, rfl, _⟩
  rfl
theorem no_w_any_term : ∀ ds xc R, ¬ sp_w_any_term 0 ds xc R := by
  rintro ds xc R ⟨ns, k, rfl, _, h0, h1, _⟩
  omega
def WRD : List Str := ["let", "fun", "call", "pair", "first", "second", "add", "fold", "again", "if", "plus", "minus", "less", "same", "let", "fold"]
theorem wrd_sgn : WRD.all (fun w => (sgn w).isSome && decide (w.length ≤ 1000) && w.cps.toList.all fun c => decide (c < 0x110000)) = true := by decide +kernel
theorem wrd_ok {w : Str} (h : w ∈ WRD) : (∃ s, sgn w = some s) ∧ w.length ≤ 1000 ∧ okS w := by
  have q := List.all_eq_true.mp wrd_sgn w h
  rw [Bool.and_eq_true, Bool.and_eq_true] at q
  refine ⟨Option.isSome_iff_exists.mp q.1.1, of_decide_eq_true q.1.2, fun c hc => of_decide_eq_true (List.all_eq_true.mp q.2 c hc)⟩
theorem pure_w_any_term (n : Nat) : ∀ ds xc R, sp_w_any_term (n + 1) ds xc R → d_w_any_term n X0 { nx := fun _ => R (.dat .non), rt := R } (args N_w_any_term ds) := by
  rintro ds xc R ⟨ns, k, rfl, hns, k0, hk, q⟩
  obtain ⟨h0, h1, hn⟩ := id hns
  show d_w_any_term n X0 _ [some (.dat .draw), some (.dat (.lst (ns.map D.str))), some (.dat (.int k)), none, none, none, none]
  unfold d_w_any_term
  refine seq_k fun K hK => ?_; walk_at "dl"
  have lf : ∀ R2 : Val → Prop, (∀ d, Gd 100 (n + 1) d → R2 (.dat d)) → sp_w_leaf [.draw, .lst (ns.map D.str)] (fun _ => False) R2 := fun R2 h => ⟨ns, rfl, hns, fun d hd => h d (hd.up (by omega))⟩
  refine ifB_dec (fun _ => lf R q) (fun hk2 => ?_)
  refine ⟨5, rfl, by decide, by decide, fun a _ _ => ?_⟩
  walk_at "dl"
  refine ⟨⟨rfl, rfl⟩, ifB_of (fun _ => lf R q) (fun _ => ?_)⟩
  subst hK
  refine seq_k fun K hK => ?_; walk_at "dl"
  refine ⟨by show 13 ≤ sizeLine; decide, ?_⟩
  subst hK
  refine seq_k fun K hK => ?_; walk_at "dl"
  refine ⟨by show 3 ≤ sizeLine; decide, by show 13 + 3 ≤ sizeLine; decide, trivial, _, _, rfl, .inl rfl, by show 0 < 16; decide, by show 16 < 100000; decide, fun d hd => ?_⟩
  have hd2 : ∃ w : Str, d = .str w ∧ w ∈ WRD := List.mem_map.mp (show d ∈ WRD.map D.str from hd) |>.elim fun w h => ⟨w, h.2.symm, h.1⟩
  clear hd
  obtain ⟨w, rfl, hw⟩ := hd2
  obtain ⟨⟨sg, hs⟩, hwl, hwo⟩ := wrd_ok hw
  have hsl := sgn_short hs
  subst hK
  refine seq_k fun K hK => ?_; walk_at "dl"
  refine ⟨by show 1 ≤ sizeLine; decide, ?_⟩
  subst hK
  refine seq_k fun K hK => ?_; walk_at "dl"
  refine ⟨w, rfl, ?_⟩
  rw [hs]
  walk_at "dl"
  refine ⟨fun i r => ∃ (l : List D) (x3 x6 : Option Val), r = [some (.dat .draw), some (.dat (.lst (ns.map D.str))), some (.dat (.int k)), x3, some (.dat (.str w)), some (.tmp (.lst (.str w :: l))), x6] ∧ l.length = i ∧ i ≤ sg.length ∧ (∀ d ∈ l, Gd 100 n d) ∧ ∀ (j : Nat) c d, sg.cps.toList[j]? = some c → l[j]? = some d → c ≠ 116 → ∃ s, d = .str s ∧ nameS s = true, ⟨[], _, none, rfl, rfl, Nat.zero_le _, fun d h => (nomatch h), fun j c d _ h => by simp at h⟩, ?_, ?_⟩
  · rintro i x r hx ⟨l, x3, x6, rfl, hl, hi, hg, hc⟩
    rw [List.getElem?_map] at hx
    obtain ⟨c, hcs, rfl⟩ := Option.map_eq_some_iff.mp hx
    have hi1 : i < sg.length := by
      have := (List.getElem?_eq_some_iff.mp hcs).1
      rw [Array.length_toList] at this
      exact this
    have hco : c < 0x110000 := hsl.2 c (List.mem_of_getElem? hcs)
    walk_at "dl"
    refine ⟨⟨eqOk_str (okS_one hco), eqOk_str (by unfold okS; decide)⟩, ?_⟩
    rw [show eqd (.str ⟨#[c]⟩) (.str "t") = decide (c = 116) from eqd_one c 116]
    have nx : ∀ d, Gd 100 n d → (c ≠ 116 → ∃ s, d = .str s ∧ nameS s = true) → ((D.str w :: l).length < sizeLine ∧ ∃ (l2 : List D) (x3' x6 : Option Val), [some (.dat .draw), some (.dat (.lst (ns.map D.str))), some (.dat (.int k)), x3, some (.dat (.str w)), some (.tmp (.lst (.str w :: l ++ [d]))), some (.dat (.str ⟨#[c]⟩))] = [some (.dat .draw), some (.dat (.lst (ns.map D.str))), some (.dat (.int k)), x3', some (.dat (.str w)), some (.tmp (.lst (.str w :: l2))), x6] ∧ l2.length = i + 1 ∧ i + 1 ≤ sg.length ∧ (∀ d ∈ l2, Gd 100 n d) ∧ ∀ (j : Nat) c d, sg.cps.toList[j]? = some c → l2[j]? = some d → c ≠ 116 → ∃ s, d = .str s ∧ nameS s = true) := fun d hd hd2 => by
      refine ⟨small_lt (by rw [List.length_cons]; omega), l ++ [d], x3, _, rfl, by rw [List.length_append, hl]; rfl, hi1, fun e he => ?_, fun j c' e hj he hne => ?_⟩
      · rcases List.mem_append.mp he with h | h
        · exact hg e h
        · rw [List.mem_singleton.mp h]; exact hd
      · by_cases hji : j < l.length
        · rw [List.getElem?_append_left hji] at he
          exact hc j c' e hj he hne
        · rw [List.getElem?_append_right (by omega)] at he
          have e0 : j - l.length = 0 := by
            cases q : j - l.length with
            | zero => rfl
            | succ n => rw [q] at he; cases he
          rw [e0] at he
          cases he
          have ej : j = i := by omega
          subst ej
          rw [hcs] at hj
          cases hj
          exact hd2 hne
    refine ifB_dec (fun hct => ?_) (fun hct => ?_)
    · exact ⟨ns, k - 1, rfl, hns, by omega, by omega, fun d hd => nx d hd (fun h => absurd hct h)⟩
    · refine ⟨_, _, rfl, .inl rfl, by rw [List.length_map]; omega, by rw [List.length_map]; omega, fun d hd => ?_⟩
      obtain ⟨s, hsn, rfl⟩ := List.mem_map.mp hd
      exact nx _ (gd_name (hn s hsn)) fun _ => ⟨s, rfl, hn s hsn⟩
  · rintro r ⟨l, x3, x6, rfl, hl, hi, hg, hc⟩
    rw [List.length_map, Array.length_toList] at hl hi
    have hl : l.length = sg.length := hl
    dsimp only
    subst hK
    refine seq_k fun K hK => ?_; walk_at "dl"
    refine ⟨⟨eqOk_str hwo, eqOk_str (by unfold okS; decide)⟩, ?_⟩
    rw [eqd_str]
    have fin : ∀ l2 : List D, l2.length = sg.length → (∀ d ∈ l2, Gd 100 n d) → K [some (.dat .draw), some (.dat (.lst (ns.map D.str))), some (.dat (.int k)), x3, some (.dat (.str w)), some (.tmp (.lst (.str w :: l2))), x6] := fun l2 h1 h2 => by
      subst hK
      walk_at "dl"
      refine q _ (gd_tup (fun d hd => ?_) (by rw [List.length_cons]; omega))
      rcases List.mem_cons.mp hd with rfl | h
      · exact gd_str hwl hwo
      · exact h2 d h
    refine ifB_dec (fun hf => ?_) (fun _ => fin l hl hg)
    subst hf
    have es := sgn_fold hs
    subst es
    have l5 : l.length = 5 := hl
    match l, l5, hg, hc, fin with
    | [a0, a1, a2, a3, a4], _, hg, hc, fin =>
      obtain ⟨s2, e2, n2⟩ := hc 2 120 a2 rfl rfl (by decide)
      obtain ⟨s3, e3, n3⟩ := hc 3 120 a3 rfl rfl (by decide)
      subst e2 e3
      refine onO_of (a := D.str s2) rfl (onO_of (a := D.str s3) rfl ?_)
      refine ⟨⟨eqOk_str (name_ok n2), eqOk_str (name_ok n3)⟩, ?_⟩
      refine ifB_of (fun _ => ?_) (fun _ => fin _ rfl hg)
      refine onO_of (a := D.str s2) rfl ?_
      have lnm : ((ns.map D.str).length : Int) = ns.length := by rw [List.length_map]
      obtain ⟨z0, hz0, hm0⟩ := atI_get (l := ns.map D.str) (i := 0) (by decide) (by omega)
      obtain ⟨s0, _, rfl⟩ := List.mem_map.mp hm0
      refine onO_of hz0 ⟨⟨eqOk_str (name_ok n2), eqOk_str (name_ok (hn s0 ‹_›))⟩, ?_⟩
      obtain ⟨z1, hz1, hm1⟩ := atI_get (l := ns.map D.str) (i := if eqd (.str s2) (.str s0) = true then 1 else 0) (by split <;> decide) (by split <;> omega)
      obtain ⟨s1, hs1, rfl⟩ := List.mem_map.mp hm1
      refine onO_of hz1 (onO_of (a := 4) rfl (fin [a0, a1, .str s2, .str s1, a4] rfl fun d hd => ?_))
      simp only [List.mem_cons, List.not_mem_nil, or_false] at hd
      rcases hd with rfl | rfl | rfl | rfl | rfl
      · exact hg _ (by simp)
      · exact hg _ (by simp)
      · exact gd_name n2
      · exact gd_name (hn _ hs1)
      · exact hg _ (by simp)
theorem len_w_wide (n : Nat) : ∀ ds xc R, sp_w_wide n ds xc R → ds.length = 2 := by
  rintro ds xc R ⟨m, t, rfl, _⟩
  rfl
theorem no_w_wide : ∀ ds xc R, ¬ sp_w_wide 0 ds xc R := by
  rintro ds xc R ⟨m, t, rfl, h0, h1, _⟩
  omega
theorem pure_w_wide (n : Nat) : ∀ ds xc R, sp_w_wide (n + 1) ds xc R → d_w_wide n X0 { nx := fun _ => R (.dat .non), rt := R } (args N_w_wide ds) := by
  rintro ds xc R ⟨m, t, rfl, h0, h1, hm, ht, q⟩
  show d_w_wide n X0 _ [some (.dat (.int m)), some (.dat t)]
  unfold d_w_wide
  refine seq_k fun K hK => ?_; walk_at "dl"
  refine ⟨⟨rfl, rfl⟩, ?_⟩
  rw [eqd_int]
  refine ifB_dec (fun _ => q t (ht.up (by omega))) (fun h2 => ?_)
  subst hK
  refine seq_k fun K hK => ?_; walk_at "dl"
  refine ⟨by decide, ⟨rfl, rfl⟩, ?_⟩
  rw [eqd_int]
  refine ifB_dec (fun h3 => ?_) (fun h3 => ?_)
  · refine ⟨m - 1, t, rfl, by omega, by omega, by omega, ht, fun d hd => ?_⟩
    walk_at "dl"
    exact ⟨by show 2 ≤ sizeLine; decide, q _ (gd_two (by decide) (by decide) (by unfold okS; decide) hd)⟩
  · subst hK
    walk_at "dl"
    refine ⟨divOk (by decide) (by decide), m / 2, t, rfl, by omega, by omega, by omega, ht, fun d hd => ?_⟩
    walk_at "dl"
    refine ⟨divOk (by decide) (by decide), m - 1 - m / 2, t, rfl, by omega, by omega, by omega, ht, fun e he => ?_⟩
    walk_at "dl"
    refine ⟨by show 3 ≤ sizeLine; decide, q _ (gd_tup (fun x hx => ?_) (by show 3 ≤ 100; decide))⟩
    simp only [List.mem_cons, List.not_mem_nil, or_false] at hx
    rcases hx with rfl | rfl | rfl
    · exact gd_str (by decide) (by unfold okS; decide)
    · exact hd
    · exact he
theorem len_w_chain : ∀ ds xc R, sp_w_chain ds xc R → ds.length = 2 := by
  rintro ds xc R ⟨m, t, rfl, _⟩
  rfl
theorem pure_w_chain : ∀ ds xc R, sp_w_chain ds xc R → d_w_chain X0 { nx := fun _ => R (.dat .non), rt := R } (args N_w_chain ds) := by
  rintro ds xc R ⟨m, t, rfl, h0, h1, ht, q⟩
  show d_w_chain X0 _ [some (.dat (.int m)), some (.dat t), none]
  unfold d_w_chain
  refine seq_k fun K hK => ?_; walk_at "dl"
  refine ⟨⟨by omega, by omega⟩, fun i r => ∃ (d : D) (x2 : Option Val), r = [some (.dat (.int m)), some (.dat d), x2] ∧ i ≤ 50 ∧ Gd 100 (i + 1) d, ⟨t, none, rfl, by omega, ht⟩, ?_, ?_⟩
  · rintro i x r hx ⟨d, x2, rfl, hi, hd⟩
    obtain ⟨rfl, hlt⟩ := rng_get hx
    walk_at "dl"
    exact ⟨by show 2 ≤ sizeLine; decide, _, _, rfl, by omega, gd_two (by decide) (by decide) (by unfold okS; decide) hd⟩
  · rintro r ⟨d, x2, rfl, hi, hd⟩
    rw [rng_length] at hi hd
    subst hK
    walk_at "dl"
    exact q d (hd.up (by omega))
theorem len_w_odd : ∀ ds xc R, sp_w_odd ds xc R → ds.length = 2 := by
  rintro ds xc R ⟨ns, rfl, _⟩
  rfl
theorem len_w_bent (n : Nat) : ∀ ds xc R, sp_w_bent n ds xc R → ds.length = 3 := by
  rintro ds xc R ⟨t, ns, rfl, _⟩
  rfl
theorem no_w_bent : ∀ ds xc R, ¬ sp_w_bent 0 ds xc R := by
  rintro ds xc R ⟨t, ns, rfl, _, h0, _⟩
  omega
theorem gd_all {k n : Nat} {l : List D} (h : l.all (fun d => okT k d && decide (dep d ≤ n)) = true) : ∀ d ∈ l, Gd k n d := fun d hd => by
  have q := List.all_eq_true.mp h d hd
  rw [Bool.and_eq_true, decide_eq_true_iff] at q
  exact q
theorem pure_w_odd : ∀ ds xc R, sp_w_odd ds xc R → d_w_odd X0 { nx := fun _ => R (.dat .non), rt := R } (args N_w_odd ds) := by
  rintro ds xc R ⟨ns, rfl, ⟨h0, h1, hn⟩, q⟩
  show d_w_odd X0 _ [some (.dat .draw), some (.dat (.lst (ns.map D.str))), none, none]
  unfold d_w_odd
  refine seq_k fun K hK => ?_; walk_at "dl"
  refine ⟨by show 1 ≤ sizeLine; decide, ?_⟩
  subst hK
  refine seq_k fun K hK => ?_; walk_at "dl"
  walk_at "szt"
  subst hK
  refine seq_k fun K hK => ?_; walk_at "dl"
  walk_at "szt"
  subst hK
  refine seq_k fun K hK => ?_; walk_at "dl"
  walk_at "szt"
  subst hK
  refine seq_k fun K hK => ?_; walk_at "dl"
  walk_at "szt"
  obtain ⟨z0, hz0, hm0⟩ := atI_get (l := ns.map D.str) (i := 0) (by decide) (by rw [List.length_map]; omega)
  obtain ⟨s0, hs0, rfl⟩ := List.mem_map.mp hm0
  refine onO_of hz0 ?_
  walk_at "szt"
  subst hK
  walk_at "dl"
  walk_at "szt"
  refine ⟨_, _, rfl, .inl rfl, by show 0 < 37; decide, by show 37 < 100000; decide, fun d hd => q d ?_⟩
  rcases List.mem_append.mp hd with hd | hd
  · rcases List.mem_append.mp hd with hd | hd
    · exact gd_all (by decide +kernel) d hd
    · simp only [List.mem_cons, List.not_mem_nil, or_false] at hd
      rcases hd with rfl | rfl | rfl | rfl
      · exact ⟨by decide +kernel, by decide +kernel⟩
      · exact ⟨by decide +kernel, by decide +kernel⟩
      · exact ⟨by decide +kernel, by decide +kernel⟩
      · exact gd_name (hn s0 hs0)
  · exact gd_all (by decide +kernel) d hd
theorem isi_tup {t : D} (h : (!t.isi .tuple) = false) : ∃ l, t = .tup l := by
  cases t <;> first | exact ⟨_, rfl⟩ | cases h
theorem pure_w_bent (n : Nat) : ∀ ds xc R, sp_w_bent (n + 1) ds xc R → d_w_bent n X0 { nx := fun _ => R (.dat .non), rt := R } (args N_w_bent ds) := by
  rintro ds xc R ⟨t, ns, rfl, hns, _, ht, q, ql⟩
  have ht : Gd 100 n t := ht
  show d_w_bent n X0 _ [some (.dat .draw), some (.dat t), some (.dat (.lst (ns.map D.str))), none, none]
  unfold d_w_bent
  have od : sp_w_odd [.draw, .lst (ns.map D.str)] (fun _ => False) R := ⟨ns, rfl, hns, fun d hd => q d (hd.up (by omega))⟩
  refine seq_k fun K hK => ?_; walk_at "dl"
  refine ⟨okT_plain ht.1, ifB_of (fun _ => od) (fun hty => ?_)⟩
  obtain ⟨l, rfl⟩ := isi_tup hty
  walk_at "dl"
  refine ⟨Nat.zero_le _, ifB_of (fun _ => od) (fun hl => ?_)⟩
  refine ⟨6, rfl, by decide, by decide, fun a _ _ => ?_⟩
  walk_at "dl"
  refine ⟨⟨rfl, rfl⟩, ifB_of (fun _ => od) (fun _ => ?_)⟩
  cases n with
  | zero => exact (gd_zero ht).elim
  | succ n =>
    obtain ⟨hg, hlen⟩ := gd_of_tup ht
    have l0 : 0 < l.length := by
      cases l with
      | nil => cases hl
      | cons _ _ => exact Nat.succ_pos _
    subst hK
    refine seq_k fun K hK => ?_; walk_at "dl"
    refine ⟨_, rfl, by omega, by omega, fun i i0 i1 => ?_⟩
    subst hK
    refine seq_k fun K hK => ?_; walk_at "dl"
    refine ⟨9, rfl, by decide, by decide, fun b _ _ => ?_⟩
    subst hK
    refine seq_k fun K hK => ?_; walk_at "dl"
    have e1 := cut_take l i0
    have e2 := cut_drop l i0
    have e3 := cut_drop l (i := i + 1) (by omega)
    have e4 := cut_take l (i := i + 1) (by omega)
    have n1 : (l.take i.toNat).length = i.toNat := by rw [List.length_take]; omega
    have n2 : (l.drop i.toNat).length = l.length - i.toNat := List.length_drop
    have n3 : (l.drop (i + 1).toNat).length = l.length - (i + 1).toNat := List.length_drop
    have n4 : (l.take (i + 1).toNat).length = (i + 1).toNat := by rw [List.length_take]; omega
    have up : ∀ d ∈ l, Gd 101 (n + 1 + 1) d := fun d hd => ((hg d hd).wide (by decide)).up (by omega)
    have mt : ∀ {d : D} {k : Nat}, d ∈ l.take k → d ∈ l := fun h => List.mem_of_mem_take h
    have md : ∀ {d : D} {k : Nat}, d ∈ l.drop k → d ∈ l := fun h => List.mem_of_mem_drop h
    refine ⟨⟨rfl, rfl⟩, ifB_of (fun _ => ?_) (fun _ => ?_)⟩
    · rw [e1, e3]
      refine ⟨small_sz (by omega), q _ (gd_tup (fun d hd => ?_) (by rw [List.length_append]; omega))⟩
      exact up d ((List.mem_append.mp hd).elim mt md)
    subst hK
    refine seq_k fun K hK => ?_; walk_at "dl"
    refine ⟨⟨rfl, rfl⟩, ifB_of (fun _ => ?_) (fun _ => ?_)⟩
    · rw [e4, e2]
      refine ⟨small_sz (by omega), q _ (gd_tup (fun d hd => ?_) (by rw [List.length_append]; omega))⟩
      exact up d ((List.mem_append.mp hd).elim mt md)
    subst hK
    refine seq_k fun K hK => ?_; walk_at "dl"
    refine ⟨⟨rfl, rfl⟩, ifB_of (fun _ => ?_) (fun _ => ?_)⟩
    · exact ql l (gd_lst (fun d hd => up d hd) (by omega))
    subst hK
    walk_at "dl"
    obtain ⟨x, hx, hxm⟩ := atI_get (l := l) i0 i1
    have fin : ∀ d, Gd 101 (n + 1 + 1) d → 1 ≤ sizeLine ∧ (l.take i.toNat).length + 1 ≤ sizeLine ∧ (l.take i.toNat ++ [d]).length + (l.drop (i + 1).toNat).length ≤ sizeLine ∧ R (.dat (.tup (l.take i.toNat ++ [d] ++ l.drop (i + 1).toNat))) := fun d hd => by
      refine ⟨by decide, small_sz (by omega), small_sz (by rw [List.length_append, List.length_singleton]; omega), q _ (gd_tup (fun e he => ?_) (by rw [List.length_append, List.length_append, List.length_singleton]; omega))⟩
      rcases List.mem_append.mp he with h | h
      · rcases List.mem_append.mp h with h | h
        · exact up e (mt h)
        · rw [List.mem_singleton.mp h]; exact hd
      · exact up e (md h)
    rw [e1, e3]
    refine onO_of hx ⟨x, ns, rfl, hns, Nat.succ_pos _, hg x hxm, fun d hd => ?_, fun k hk => ?_⟩
    · exact ⟨trivial, fin d hd⟩
    · exact ⟨trivial, fin _ hk⟩
theorem len_is_name : ∀ ds xc R, sp_is_name ds xc R → ds.length = 1 := by
  rintro ds xc R ⟨d, rfl, _⟩
  rfl
theorem kept_D : g_KEPT = .tup (KEPTL.map D.str) := rfl
theorem let_D : g_LETTERS = .str LET := rfl
theorem most_D : g_MOST_LETTERS = .int 6 := rfl
/-- a name's three looks -/
theorem pure_is_name : ∀ ds xc R, sp_is_name ds xc R → d_is_name X0 { nx := fun _ => R (.dat .non), rt := R } (args N_is_name ds) := by
  rintro ds xc R ⟨d, rfl, ok, q⟩
  show d_is_name X0 _ [some (.dat d), none]
  unfold d_is_name
  rw [kept_D, most_D, let_D]
  cases d with
  | str s =>
    obtain ⟨ok, hok⟩ := (show s.length ≤ 1000 ∧ okS s from ok)
    have q : R (.dat (.bl (nameS s))) := q
    refine seq_k fun K hK => ?_; walk_at "dl"
    refine ⟨rfl, small_sz (by omega), ?_⟩
    refine ifB_dec (fun h1 => ?_) (fun h1 => ?_)
    · by_cases h2 : (s.length : Int) ≤ 6
      · rw [decide_eq_true h2]
        walk_at "dl"
        refine ⟨⟨rfl, flat_strs _⟩, ?_⟩
        rw [inD_strs]
        by_cases h3 : s ∈ KEPTL
        · rw [nameS_no2 h3] at q
          exact ifB_T (decide_eq_true h3) q
        · refine ifB_F (decide_eq_false h3) ?_
          rw [nameS_yes ⟨by omega, by omega⟩ h3] at q
          subst hK
          walk_at "dl"
          refine lc_map (fun x => .bl (decide (signOf x ∈ LET.cps.toList))) (by
            rw [List.length_map, Array.length_toList]
            show s.length ≤ 100000
            omega) (fun x hx P hP => ?_) ?_
          · obtain ⟨c, hc, rfl⟩ := List.mem_map.mp hx
            walk_at "dl"
            exact ⟨c, rfl, hP⟩
          · walk_at "dl"
            refine onO_of (chars_bl (fun c => decide (c ∈ LET.cps.toList)) _ (fun c => rfl) _) ?_
            rw [List.all_map]
            exact q
      · rw [decide_eq_false h2]
        walk_at "dl"
        rw [nameS_no1 (by omega)] at q
        exact q
    · rw [nameS_no1 (by omega)] at q
      exact q
  | _ => walk_at "dl"; exact ⟨ok, q⟩
theorem len_is_single : ∀ ds xc R, sp_is_single ds xc R → ds.length = 2 := by
  rintro ds xc R ⟨c, d, rfl, _⟩
  rfl
theorem ask_of {k : Nat} {d : D} (h : okT k d = true) : askOk d := by
  cases d <;> first | exact okT_str.mp h | exact okT_plain h
theorem eqd_x (c : Nat) : eqd (.str ⟨#[c]⟩) (.str "x") = decide (c = 120) := eqd_one c 120
theorem eqd_t (c : Nat) : eqd (.str ⟨#[c]⟩) (.str "t") = decide (c = 116) := eqd_one c 116
theorem eqd_b (c : Nat) : eqd (.str ⟨#[c]⟩) (.str "b") = decide (c = 98) := eqd_one c 98
theorem eqOk_x : eqOk (.str "x") = true := eqOk_str (by unfold okS; decide)
theorem eqOk_t : eqOk (.str "t") = true := eqOk_str (by unfold okS; decide)
theorem eqOk_b : eqOk (.str "b") = true := eqOk_str (by unfold okS; decide)
theorem pure_is_single : ∀ ds xc R, sp_is_single ds xc R → d_is_single X0 { nx := fun _ => R (.dat .non), rt := R } (args N_is_single ds) := by
  rintro ds xc R ⟨c, d, rfl, hc, hd, q⟩
  show d_is_single X0 _ [some (.dat (.str ⟨#[c]⟩)), some (.dat d)]
  unfold d_is_single
  refine seq_k fun K hK => ?_; walk_at "dl"
  refine ⟨⟨eqOk_str (okS_one hc), eqOk_x⟩, ?_⟩
  rw [eqd_x]
  refine ifB_dec (fun h => ?_) (fun h => ?_)
  · refine ⟨d, rfl, ask_of hd, ?_⟩
    unfold single at q
    rw [if_pos h] at q
    exact q
  · unfold single at q
    rw [if_neg h] at q
    subst hK
    walk_at "dl"
    refine ⟨okT_plain hd, ifB_of (fun h2 => ?_) (fun h2 => ?_)⟩
    · rw [h2] at q
      refine ⟨okT_plain hd, ⟨eqOk_str (okS_one hc), eqOk_b⟩, ⟨rfl, rfl⟩, ?_⟩
      rw [eqd_b, eqd_bl]
      exact q
    · rw [h2] at q
      exact q
theorem len_left_behind (n : Nat) : ∀ ds xc R, sp_left_behind n ds xc R → ds.length = 3 := by
  rintro ds xc R ⟨d, l, k, rfl, _⟩
  rfl
theorem no_left_behind : ∀ ds xc R, ¬ sp_left_behind 0 ds xc R := by
  rintro ds xc R ⟨d, l, k, rfl, h, _⟩
  omega
theorem lefts_low {o : Option Nat} {l : Int} (h : l < 1) (hp : ∀ k, o = some k → 0 < k) : lefts o l = -1 := by
  unfold lefts
  cases o with
  | none => rfl
  | some k =>
    have := hp k rfl
    show (if (k : Int) ≤ l then _ else _) = _
    rw [if_neg (by omega)]
theorem size_pos {n : Nat} {d : D} {k : Nat} (h : size n d = some k) : 0 < k := by
  unfold size at h
  split at h
  · split at h
    · split at h
      · split at h
        · cases h
        · obtain ⟨j, _, e⟩ := Option.map_eq_some_iff.mp h
          omega
      · cases h
    · cases h
  · cases h
theorem szs_cons (f : D → Option Nat) (c : Nat) (cs : List Nat) (p : D) (ps : List D) : szs f (c :: cs) (p :: ps) = match (if c = 116 then f p else if single c p then some 0 else none), szs f cs ps with
    | some a, some b => some (a + b)
    | _, _ => none := rfl
theorem lefts_t (f : D → Option Nat) (cs : List Nat) (p : D) (ps : List D) {m : Int} (h : 0 ≤ m) : lefts (szs f (116 :: cs) (p :: ps)) m = if lefts (f p) m < 0 then -1 else lefts (szs f cs ps) (lefts (f p) m) := by
  rw [szs_cons, if_pos rfl]
  cases e : f p with
  | none => rfl
  | some a =>
    by_cases ha : (a : Int) ≤ m
    · have e1 : lefts (some a) m = m - a := by
        show (if (a : Int) ≤ m then _ else _) = _
        rw [if_pos ha]
      rw [e1, if_neg (by omega)]
      cases szs f cs ps with
      | none => rfl
      | some b =>
        show (if ((a + b : Nat) : Int) ≤ m then m - ((a + b : Nat) : Int) else -1) = if (b : Int) ≤ m - a then m - a - b else -1
        by_cases hb : (b : Int) ≤ m - a
        · rw [if_pos hb, if_pos (by omega)]
          omega
        · rw [if_neg hb, if_neg (by omega)]
    · have e1 : lefts (some a) m = -1 := by
        show (if (a : Int) ≤ m then _ else _) = _
        rw [if_neg ha]
      rw [e1, if_pos (by decide)]
      cases szs f cs ps with
      | none => rfl
      | some b =>
        show (if ((a + b : Nat) : Int) ≤ m then m - ((a + b : Nat) : Int) else -1) = -1
        rw [if_neg (by omega)]
theorem lefts_s (f : D → Option Nat) {c : Nat} (cs : List Nat) (p : D) (ps : List D) (m : Int) (h : ¬ c = 116) : lefts (szs f (c :: cs) (p :: ps)) m = if single c p then lefts (szs f cs ps) m else -1 := by
  rw [szs_cons, if_neg h]
  cases single c p with
  | false => rfl
  | true =>
    show lefts (match some 0, szs f cs ps with
      | some a, some b => some (a + b)
      | _, _ => none) m = lefts (szs f cs ps) m
    cases szs f cs ps with
    | none => rfl
    | some b =>
      show lefts (some (0 + b)) m = _
      rw [Nat.zero_add]
theorem lefts_neg {o : Option Nat} {m : Int} (h : 0 ≤ m) (e : lefts o m = -1) (al : Bool) : lefts (if al then none else o.map (· + 1)) (m + 1) = -1 := by
  cases al with
  | true => rfl
  | false =>
    cases o with
    | none => rfl
    | some k =>
      have e : (if (k : Int) ≤ m then m - k else -1) = -1 := e
      show (if ((k + 1 : Nat) : Int) ≤ m + 1 then _ else _) = _
      by_cases hk : (k : Int) ≤ m
      · rw [if_pos hk] at e
        omega
      · rw [if_neg (by omega)]
theorem lefts_some {o : Option Nat} {m x : Int} (h : 0 ≤ x) (e : lefts o m = x) : ∃ k : Nat, o = some k ∧ x = m - k ∧ (k : Int) ≤ m := by
  cases o with
  | none =>
    have e : (-1 : Int) = x := e
    omega
  | some k =>
    have e : (if (k : Int) ≤ m then m - k else -1) = x := e
    by_cases hk : (k : Int) ≤ m
    · rw [if_pos hk] at e
      exact ⟨k, rfl, e.symm, hk⟩
    · rw [if_neg hk] at e
      omega
/-- a term's signs and parts, one by one -/
theorem pairs_get {cs : List Nat} {ps : List D} {i : Nat} {x : D} (h : (((cs.map fun c => D.str ⟨#[c]⟩).zip ps).map pair2)[i]? = some x) : ∃ c p, cs[i]? = some c ∧ ps[i]? = some p ∧ x = .tup [.str ⟨#[c]⟩, p] := by
  rw [List.getElem?_map] at h
  obtain ⟨pr, hp, rfl⟩ := Option.map_eq_some_iff.mp h
  obtain ⟨h1, h2⟩ := zip_get _ _ _ _ hp
  rw [List.getElem?_map] at h1
  obtain ⟨c, hc, e⟩ := Option.map_eq_some_iff.mp h1
  exact ⟨c, pr.2, hc, h2, by rw [e]; rfl⟩
theorem drop_get {α : Type} {l : List α} {i : Nat} {x : α} (h : l[i]? = some x) : l.drop i = x :: l.drop (i + 1) := by
  obtain ⟨hl, e⟩ := List.getElem?_eq_some_iff.mp h
  rw [← e]
  exact List.drop_eq_getElem_cons hl
theorem isi_str {t : D} (h : (!t.isi .str) = false) : ∃ l, t = .str l := by
  cases t <;> first | exact ⟨_, rfl⟩ | cases h
theorem name_str {d : D} (h : nameB d = true) : ∃ s, d = .str s ∧ nameS s = true := by
  cases d <;> first | exact ⟨_, rfl, h⟩ | cases h
theorem szs_len {f : D → Option Nat} : ∀ {cs : List Nat} {ps : List D} {k : Nat}, szs f cs ps = some k → cs.length = ps.length
  | [], [], _, _ => rfl
  | [], _ :: _, _, h => nomatch h
  | _ :: _, [], _, h => nomatch h
  | c :: cs, p :: ps, k, h => by
    rw [szs_cons] at h
    cases e : szs f cs ps with
    | none =>
      rw [e] at h
      cases hq : (if c = 116 then f p else if single c p then some 0 else none) <;> rw [hq] at h <;> cases h
    | some b => exact congrArg (· + 1) (szs_len e)
theorem at0 {α : Type} (a : α) (l : List α) : atI (a :: l) 0 = some a := by
  unfold atI ixN
  rw [List.length_cons]
  simp
theorem ofnat_pos (n : Nat) : ¬ ((n + 1 : Nat) : Int) = 0 := by omega
/-- fold's names, where it is one -/
theorem fold_parts {f : D → Option Nat} {ps : List D} {k : Nat} (h : szs f ("ttxxt" : Str).cps.toList ps = some k) : ∃ a b s2 s3 e, ps = [a, b, .str s2, .str s3, e] ∧ nameS s2 = true ∧ nameS s3 = true := by
  have e : ("ttxxt" : Str).cps.toList = [116, 116, 120, 120, 116] := rfl
  rw [e] at h
  have hlen := szs_len h
  match ps, hlen, h with
  | [a, b, c, d, e], _, h =>
    have hc : single 120 c = true := by
      cases hs : single 120 c with
      | true => rfl
      | false =>
        rw [szs_cons, szs_cons, szs_cons, if_neg (by decide : ¬ (120 : Nat) = 116), hs] at h
        cases f a <;> cases f b <;> simp at h
    have hd : single 120 d = true := by
      cases hs : single 120 d with
      | true => rfl
      | false =>
        rw [szs_cons, szs_cons, szs_cons, szs_cons, if_neg (by decide : ¬ (120 : Nat) = 116), if_neg (by decide : ¬ (120 : Nat) = 116), hs] at h
        cases f a <;> cases f b <;> cases single 120 c <;> simp at h
    obtain ⟨s2, rfl, n2⟩ := name_str (show nameB c = true from hc)
    obtain ⟨s3, rfl, n3⟩ := name_str (show nameB d = true from hd)
    exact ⟨a, b, s2, s3, e, rfl, n2, n3⟩
theorem tab_D : tab_SIGNS = SGT.map fun p => (p.1, D.str p.2) := rfl
theorem pure_left_behind (n : Nat) : ∀ ds xc R, sp_left_behind (n + 1) ds xc R → d_left_behind n X0 { nx := fun _ => R (.dat .non), rt := R } (args N_left_behind ds) := by
  rintro ds xc R ⟨d, l, k, rfl, hk, hd, q⟩
  show d_left_behind n X0 _ [some (.dat d), some (.dat (.int l)), some (.dat (.int k)), none, none, none]
  unfold d_left_behind
  refine seq_k fun K hK => ?_; walk_at "dl"
  refine ifB_dec (fun h => ?_) (fun hl => ?_)
  · rw [lefts_low h fun _ e => size_pos e] at q
    exact q
  refine ifB_dec (fun h => ?_) (fun hk0 => ?_)
  · have e : k = 0 := by omega
    subst e
    rw [size_zero] at q
    exact q
  refine ⟨okT_plain hd, ifB_of (fun h => ?_) (fun hty => ?_)⟩
  · rw [size_unheaded (by cases d <;> first | rfl | cases h)] at q
    exact q
  obtain ⟨ls, rfl⟩ := isi_tup hty
  walk_at "dl"
  refine ⟨Nat.zero_le _, ifB_of (fun h => ?_) (fun hne => ?_)⟩
  · rw [size_unheaded (by cases ls <;> first | rfl | cases h)] at q
    exact q
  cases ls with
  | nil => cases hne
  | cons a ps =>
    refine onO_of (at0 a ps) ?_
    have hda := okT_tup.mp hd
    refine ⟨okT_plain (hda.1 a (List.mem_cons_self ..)), ifB_of (fun h => ?_) (fun hty => ?_)⟩
    · rw [size_unheaded (by cases a <;> first | rfl | cases h)] at q
      exact q
    obtain ⟨w, rfl⟩ := isi_str hty
    obtain ⟨k, rfl⟩ : ∃ k', k = k' + 1 := ⟨k - 1, by omega⟩
    rw [size_succ] at q
    subst hK
    refine seq_k fun K hK => ?_; walk_at "dl"
    refine onO_of (at0 _ ps) ?_
    walk_at "dl"
    rw [tab_D, tabV_map D.str w SGT]
    show getP ((sgn w).map D.str) _ _
    cases es : sgn w with
    | none =>
      rw [es] at q
      show K _
      subst hK
      walk_at "dl"
      exact q
    | some s =>
      rw [es] at q
      have hs := sgn_short es
      show K [_, _, _, some (.dat (.str s)), none, none]
      subst hK
      refine seq_k fun K hK => ?_; walk_at "dl"
      refine ⟨small_sz (by omega), ⟨rfl, rfl⟩, ?_⟩
      rw [eqd_int]
      have q : R (.dat (.int (lefts (if ps.length = s.length then if alike w ps = true then none else Option.map (fun x => x + 1) (szs (size k) s.cps.toList ps) else none) l))) := q
      by_cases hlen : ps.length = s.length
      · rw [if_pos hlen] at q
        rw [decide_eq_true (by rw [List.length_cons]; omega)]
        refine ifB_F rfl ?_
        subst hK
        refine seq_k fun K hK => ?_; walk_at "dl"
        subst hK
        refine seq_k fun K hK => ?_; walk_at "dl"
        rw [cut_tail]
        have cl : s.cps.toList.length = s.length := Array.length_toList
        refine ⟨fun i r => ∃ (m : Int) (x4 x5 : Option Val), r = [some (.dat (.tup (.str w :: ps))), some (.dat (.int m)), some (.dat (.int (k + 1 : Nat))), some (.dat (.str s)), x4, x5] ∧ 0 ≤ m ∧ lefts (szs (size k) (s.cps.toList.drop i) (ps.drop i)) m = lefts (szs (size k) s.cps.toList ps) (l - 1), ⟨l - 1, none, none, rfl, by omega, rfl⟩, ?_, ?_⟩
        · rintro i x r hx ⟨m, x4, x5, rfl, hm, hl2⟩
          obtain ⟨c, p, hc, hp, rfl⟩ := pairs_get hx
          rw [drop_get hc, drop_get hp] at hl2
          have hco : c < 0x110000 := hs.2 c (List.mem_of_getElem? hc)
          have hop := hda.1 p (List.mem_cons_of_mem _ (List.mem_of_getElem? hp))
          refine gT2_mk ?_
          refine seq_k fun K hK => ?_; walk_at "dl"
          refine ⟨⟨eqOk_str (okS_one hco), eqOk_t⟩, ?_⟩
          rw [eqd_t]
          have bad : lefts (szs (size k) s.cps.toList ps) (l - 1) = -1 → R (.dat (.int (-1))) := fun e => by
            have e2 := lefts_neg (o := szs (size k) s.cps.toList ps) (m := l - 1) (by omega) e (alike w ps)
            rw [show l - 1 + 1 = l by omega] at e2
            rw [e2] at q
            exact q
          refine ifB_dec (fun hct => ?_) (fun hct => ?_)
          · subst hct
            rw [lefts_t _ _ _ _ hm] at hl2
            refine ⟨p, m, k, by rw [show ((k + 1 : Nat) : Int) - 1 = (k : Int) by omega], by omega, hop, ?_⟩
            subst hK
            walk_at "dl"
            refine ifB_dec (fun hneg => ?_) (fun hneg => ?_)
            · rw [if_pos hneg] at hl2
              exact bad hl2.symm
            · rw [if_neg hneg] at hl2
              exact ⟨_, _, _, rfl, by omega, hl2⟩
          · rw [lefts_s _ _ _ _ _ hct] at hl2
            refine ⟨c, p, rfl, hco, hop, ?_⟩
            walk_at "dl"
            cases hsg : single c p with
            | true =>
              rw [hsg] at hl2
              refine ifB_F rfl ?_
              subst hK
              walk_at "dl"
              refine ifB_dec (fun z => by omega) (fun _ => ⟨_, _, _, rfl, hm, hl2⟩)
            | false =>
              rw [hsg] at hl2
              refine ifB_T rfl ?_
              subst hK
              walk_at "dl"
              exact ifB_T rfl (bad hl2.symm)
        · rintro r ⟨m, x4, x5, rfl, hm, hl2⟩
          have el : (((s.cps.toList.map fun c => D.str ⟨#[c]⟩).zip ps).map pair2).length = s.length := by
            rw [List.length_map, List.length_zip, List.length_map, cl, hlen, Nat.min_self]
          rw [el, List.drop_of_length_le (by omega), List.drop_of_length_le (by omega)] at hl2
          have hl2 : (if ((0 : Nat) : Int) ≤ m then m - ((0 : Nat) : Int) else -1) = lefts (szs (size k) s.cps.toList ps) (l - 1) := hl2
          rw [if_pos (by omega)] at hl2
          obtain ⟨k0, e0, e1, e2⟩ := lefts_some (by omega) hl2.symm
          rw [e0] at q
          dsimp only
          subst hK
          refine seq_k fun K hK => ?_; walk_at "dl"
          refine onO_of (at0 _ ps) ?_
          have hw := okT_str.mp (hda.1 _ (List.mem_cons_self ..))
          refine ⟨⟨eqOk_str hw.2, eqOk_str (by unfold okS; decide)⟩, ?_⟩
          rw [eqd_str]
          have good : alike w ps = false → K [some (.dat (.tup (.str w :: ps))), some (.dat (.int m)), some (.dat (.int (k + 1 : Nat))), some (.dat (.str s)), x4, x5] := fun ha => by
            rw [ha] at q
            have q : R (.dat (.int (if ((k0 + 1 : Nat) : Int) ≤ l then l - ((k0 + 1 : Nat) : Int) else -1))) := q
            rw [if_pos (by omega)] at q
            subst hK
            walk_at "dl"
            rw [show l - ((k0 + 1 : Nat) : Int) = m by omega] at q
            exact q
          refine ifB_dec (fun hf => ?_) (fun hf => good (by unfold alike; rw [decide_eq_false hf]; rfl))
          subst hf
          have e := sgn_fold es
          subst e
          obtain ⟨a, b, s2, s3, c, rfl, n2, n3⟩ := fold_parts e0
          refine onO_of (a := D.str s2) rfl (onO_of (a := D.str s3) rfl ⟨⟨eqOk_str (name_ok n2), eqOk_str (name_ok n3)⟩, ?_⟩)
          rw [eqd_str]
          have ea : alike "fold" [a, b, .str s2, .str s3, c] = decide (s2 = s3) := rfl
          rw [ea] at q good
          refine ifB_dec (fun h => ?_) (fun h => good (decide_eq_false h))
          rw [decide_eq_true h] at q
          exact q
      · rw [if_neg hlen] at q
        rw [decide_eq_false (by rw [List.length_cons]; omega)]
        exact ifB_T rfl q
theorem len_is_term : ∀ ds xc R, sp_is_term ds xc R → ds.length = 1 := by
  rintro ds xc R ⟨d, rfl, _⟩
  rfl
theorem pure_is_term : ∀ ds xc R, sp_is_term ds xc R → d_is_term X0 { nx := fun _ => R (.dat .non), rt := R } (args N_is_term ds) := by
  rintro ds xc R ⟨d, rfl, hd, q⟩
  show d_is_term X0 _ [some (.dat d)]
  unfold d_is_term
  rw [show g_MOST_PARTS = .int 200 from rfl, show g_MOST_DEEP = .int 40 from rfl]
  walk_at "dl"
  refine ⟨d, 200, 40, rfl, by decide, hd, ?_⟩
  walk_at "dl"
  exact q
theorem len_w_is_name : ∀ ds xc R, sp_w_is_name ds xc R → ds.length = 1 := len_is_name
theorem pure_w_is_name : ∀ ds xc R, sp_w_is_name ds xc R → d_w_is_name X0 { nx := fun _ => R (.dat .non), rt := R } (args N_w_is_name ds) := by
  rintro ds xc R ⟨d, rfl, ok, q⟩
  show d_w_is_name X0 _ [some (.dat d), none]
  unfold d_w_is_name
  cases d with
  | str s =>
    obtain ⟨ok, hok⟩ := (show s.length ≤ 1000 ∧ okS s from ok)
    have q : R (.dat (.bl (nameS s))) := q
    refine seq_k fun K hK => ?_; walk_at "dl"
    refine ⟨rfl, small_sz (by omega), ?_⟩
    refine ifB_dec (fun h1 => ?_) (fun h1 => ?_)
    · by_cases h2 : (s.length : Int) ≤ 6
      · rw [decide_eq_true h2]
        walk_at "dl"
        refine ⟨rfl, ?_⟩
        walk_at "dl"
        refine ⟨⟨rfl, flat_strs _⟩, ?_⟩
        rw [inD_strs]
        by_cases h3 : s ∈ KEPTL
        · rw [nameS_no2 h3] at q
          exact ifB_T (decide_eq_true h3) q
        · refine ifB_F (decide_eq_false h3) ?_
          rw [nameS_yes ⟨by omega, by omega⟩ h3] at q
          subst hK
          walk_at "dl"
          refine lc_filter (fun x => !decide (signOf x ∈ LET.cps.toList)) (fun x => x) (by
            rw [List.length_map, Array.length_toList]
            show s.length ≤ 100000
            omega) (fun x hx Pt Pf h4 h5 => ?_) ?_
          · obtain ⟨c, hc, rfl⟩ := List.mem_map.mp hx
            walk_at "dl"
            exact ⟨c, rfl, ifB_of h4 h5⟩
          · walk_at "dl"
            have e0 : (((s.cps.toList.map fun c => D.str ⟨#[c]⟩).filter fun x => !decide (signOf x ∈ LET.cps.toList)).map fun x => x) = ((s.cps.toList.filter fun c => !decide (c ∈ LET.cps.toList)).map fun c => (⟨#[c]⟩ : Str)).map D.str := by
              rw [List.map_id', List.filter_map, List.map_map]
              rfl
            rw [e0]
            refine ⟨Nat.zero_le _, ?_⟩
            rw [List.isEmpty_map, List.isEmpty_map]
            rw [none_left fun c => decide (c ∈ LET.cps.toList)]
            exact q
      · rw [decide_eq_false h2]
        walk_at "dl"
        rw [nameS_no1 (by omega)] at q
        exact q
    · rw [nameS_no1 (by omega)] at q
      exact q
  | _ => walk_at "dl"; exact ⟨ok, q⟩
theorem len_w_look (n : Nat) : ∀ ds xc R, sp_w_look n ds xc R → ds.length = 2 := by
  rintro ds xc R ⟨d, k, rfl, _⟩
  rfl
theorem no_w_look : ∀ ds xc R, ¬ sp_w_look 0 ds xc R := by
  rintro ds xc R ⟨d, k, rfl, h, _⟩
  omega
/-- what look tells -/
def Told (o : Option Nat) (r : Int) : Prop := match o with
  | some m => r = m
  | none => 1000 ≤ r
/-- the looks so far -/
def Sofar (f : D → Option Nat) (cs : List Nat) (ps : List D) (m : Int) (o : Option Nat) : Prop := (∃ k : Nat, m = 1 + k ∧ o = (szs f cs ps).map (k + ·)) ∨ (o = none ∧ 1000 ≤ m)
theorem Sofar.t {f : D → Option Nat} {cs : List Nat} {p : D} {ps : List D} {m : Int} {o : Option Nat} {r : Int} (h : Sofar f (116 :: cs) (p :: ps) m o) (hr : Told (f p) r) (h0 : 0 ≤ m) : Sofar f cs ps (m + r) o := by
  rcases h with ⟨k, e, ho⟩ | ⟨ho, h⟩
  · rw [szs_cons, if_pos rfl] at ho
    cases e1 : f p with
    | none =>
      rw [e1] at ho hr
      have hr : 1000 ≤ r := hr
      exact .inr ⟨ho, by omega⟩
    | some a =>
      rw [e1] at ho hr
      have hr : r = a := hr
      refine .inl ⟨k + a, by omega, ?_⟩
      rw [ho]
      cases szs f cs ps with
      | none => rfl
      | some b =>
        show some (k + (a + b)) = some (k + a + b)
        rw [Nat.add_assoc]
  · refine .inr ⟨ho, ?_⟩
    cases e1 : f p with
    | none =>
      rw [e1] at hr
      have hr : 1000 ≤ r := hr
      omega
    | some a =>
      rw [e1] at hr
      have hr : r = a := hr
      omega
theorem Sofar.s {f : D → Option Nat} {c : Nat} {cs : List Nat} {p : D} {ps : List D} {m : Int} {o : Option Nat} (h : Sofar f (c :: cs) (p :: ps) m o) (hc : ¬ c = 116) : (single c p = true ∧ Sofar f cs ps m o) ∨ (single c p = false ∧ o = none) := by
  cases hs : single c p with
  | true =>
    refine .inl ⟨rfl, ?_⟩
    rcases h with ⟨k, e, ho⟩ | h
    · rw [szs_cons, if_neg hc, hs] at ho
      refine .inl ⟨k, e, ?_⟩
      rw [ho]
      show Option.map _ (match some 0, szs f cs ps with
        | some a, some b => some (a + b)
        | _, _ => none) = _
      cases szs f cs ps with
      | none => rfl
      | some b =>
        show some (k + (0 + b)) = some (k + b)
        rw [Nat.zero_add]
    · exact .inr h
  | false =>
    refine .inr ⟨rfl, ?_⟩
    rcases h with ⟨k, e, ho⟩ | h
    · rw [szs_cons, if_neg hc, hs] at ho
      rw [ho]
      rfl
    · exact h.1
theorem pure_w_look (n : Nat) : ∀ ds xc R, sp_w_look (n + 1) ds xc R → d_w_look n X0 { nx := fun _ => R (.dat .non), rt := R } (args N_w_look ds) := by
  rintro ds xc R ⟨d, k, rfl, hk, hd, q⟩
  have q : ∀ r : Int, Told (size k d) r → R (.dat (.int r)) := q
  have low : size k d = none → R (.dat (.int 1000)) := fun e => q 1000 (by rw [e]; exact Int.le_refl _)
  show d_w_look n X0 _ [some (.dat d), some (.dat (.int k)), none, none, none, none, none]
  unfold d_w_look
  refine seq_k fun K hK => ?_; walk_at "dl"
  refine ⟨⟨rfl, rfl⟩, ?_⟩
  rw [eqd_int]
  refine ifB_dec (fun h => ?_) (fun hk0 => ?_)
  · have e : k = 0 := by omega
    subst e
    exact low (size_zero d)
  refine ⟨okT_plain hd, ifB_of (fun h => low (size_unheaded (by cases d <;> first | rfl | cases h))) (fun hty => ?_)⟩
  obtain ⟨ls, rfl⟩ := isi_tup hty
  walk_at "dl"
  refine ⟨Nat.zero_le _, ifB_of (fun h => low (size_unheaded (by cases ls <;> first | rfl | cases h))) (fun hne => ?_)⟩
  cases ls with
  | nil => cases hne
  | cons a ps =>
    refine onO_of (at0 a ps) ?_
    have hda := okT_tup.mp hd
    refine ⟨okT_plain (hda.1 a (List.mem_cons_self ..)), ifB_of (fun h => low (size_unheaded (by cases a <;> first | rfl | cases h))) (fun hty => ?_)⟩
    obtain ⟨w, rfl⟩ := isi_str hty
    obtain ⟨k, rfl⟩ : ∃ k', k = k' + 1 := ⟨k - 1, by omega⟩
    rw [size_succ] at q low
    subst hK
    refine seq_k fun K hK => ?_; walk_at "dl"
    refine onO_of (at0 _ ps) ⟨w, rfl, ?_⟩
    cases es : sgn w with
    | none =>
      rw [es] at low
      subst hK
      walk_at "dl"
      exact low rfl
    | some s =>
      have hs := sgn_short es
      rw [es] at q low
      have q : ∀ r : Int, Told (if ps.length = s.length then if alike w ps = true then none else Option.map (fun x => x + 1) (szs (size k) s.cps.toList ps) else none) r → R (.dat (.int r)) := q
      have low : (if ps.length = s.length then if alike w ps = true then none else Option.map (fun x => x + 1) (szs (size k) s.cps.toList ps) else none) = none → R (.dat (.int 1000)) := low
      subst hK
      refine seq_k fun K hK => ?_; walk_at "dl"
      refine ⟨small_sz (by omega), ⟨rfl, rfl⟩, ?_⟩
      rw [eqd_int]
      by_cases hlen : ps.length = s.length
      · rw [if_pos hlen] at q low
        rw [decide_eq_true (by rw [List.length_cons]; omega)]
        refine ifB_F rfl ?_
        subst hK
        refine seq_k fun K hK => ?_; walk_at "dl"
        subst hK
        refine seq_k fun K hK => ?_; walk_at "dl"
        rw [cut_tail]
        have cl : s.cps.toList.length = s.length := Array.length_toList
        refine ⟨fun i r => ∃ (m : Int) (x4 x5 x6 : Option Val), r = [some (.dat (.tup (.str w :: ps))), some (.dat (.int (k + 1 : Nat))), some (.dat (.str s)), some (.dat (.int m)), x4, x5, x6] ∧ 0 ≤ m ∧ Sofar (size k) (s.cps.toList.drop i) (ps.drop i) m (szs (size k) s.cps.toList ps) ∧ ∀ j c p, j < i → s.cps.toList[j]? = some c → ps[j]? = some p → c ≠ 116 → single c p = true, ⟨1, none, none, none, rfl, by decide, .inl ⟨0, rfl, by simp⟩, fun j c p h => absurd h (Nat.not_lt_zero _)⟩, ?_, ?_⟩
        · rintro i x r hx ⟨m, x4, x5, x6, rfl, hm, hl2, hsg⟩
          obtain ⟨c, p, hc, hp, rfl⟩ := pairs_get hx
          rw [drop_get hc, drop_get hp] at hl2
          have hco : c < 0x110000 := hs.2 c (List.mem_of_getElem? hc)
          have hop := hda.1 p (List.mem_cons_of_mem _ (List.mem_of_getElem? hp))
          refine gT2_mk ?_
          refine seq_k fun K hK => ?_; walk_at "dl"
          have hsg2 : (c ≠ 116 → single c p = true) → ∀ j c' p', j < i + 1 → s.cps.toList[j]? = some c' → ps[j]? = some p' → c' ≠ 116 → single c' p' = true := fun h j c' p' hj h1 h2 h3 => by
            rcases Nat.lt_or_ge j i with z | z
            · exact hsg j c' p' z h1 h2 h3
            · have e : j = i := by omega
              subst e
              rw [hc] at h1
              rw [hp] at h2
              cases h1
              cases h2
              exact h h3
          have next : ∀ b : Bool, (c ≠ 120 → b = single c p) → K [some (.dat (.tup (.str w :: ps))), some (.dat (.int (k + 1 : Nat))), some (.dat (.str s)), some (.dat (.int m)), some (.dat (.str ⟨#[c]⟩)), some (.dat p), some (.dat (.bl b))] := fun b hb => by
            subst hK
            refine seq_k fun K hK => ?_; walk_at "dl"
            have next2 : ∀ b : Bool, (c ≠ 116 → b = single c p) → K [some (.dat (.tup (.str w :: ps))), some (.dat (.int (k + 1 : Nat))), some (.dat (.str s)), some (.dat (.int m)), some (.dat (.str ⟨#[c]⟩)), some (.dat p), some (.dat (.bl b))] := fun b hb => by
              subst hK
              walk_at "dl"
              refine ⟨⟨eqOk_str (okS_one hco), eqOk_t⟩, ?_⟩
              rw [eqd_t]
              refine ifB_dec (fun hct => ?_) (fun hct => ?_)
              · subst hct
                refine ⟨p, k, by rw [show ((k + 1 : Nat) : Int) - 1 = (k : Int) by omega], by omega, hop, fun r hr => ?_⟩
                walk_at "dl"
                have hr : Told (size k p) r := hr
                have hr0 : 0 ≤ r := by
                  cases e : size k p with
                  | none => rw [e] at hr; have hr : 1000 ≤ r := hr; omega
                  | some a => rw [e] at hr; have hr : r = a := hr; omega
                exact ⟨_, _, _, _, rfl, by omega, hl2.t hr hm, hsg2 fun h => absurd rfl h⟩
              · rw [hb hct]
                rcases hl2.s hct with ⟨e, h⟩ | ⟨e, h⟩
                · rw [e]
                  exact ifB_F rfl ⟨_, _, _, _, rfl, hm, h, hsg2 fun _ => e⟩
                · rw [e]
                  refine ifB_T rfl (low ?_)
                  rw [h]
                  cases alike w ps <;> rfl
            refine ⟨⟨eqOk_str (okS_one hco), eqOk_x⟩, ?_⟩
            rw [eqd_x]
            refine ifB_dec (fun hcx => ?_) (fun hcx => next2 b fun _ => hb hcx)
            refine ⟨p, rfl, ask_of hop, next2 _ fun _ => ?_⟩
            unfold single
            rw [if_pos hcx]
          have es2 : c ≠ 120 → (p.isi .int && (p.isi .bool == decide (c = 98))) = single c p := fun h => by
            unfold single
            rw [if_neg h]
          refine ⟨okT_plain hop, ifB_of (fun h2 => ?_) (fun h2 => ?_)⟩
          · refine ⟨okT_plain hop, ⟨eqOk_str (okS_one hco), eqOk_b⟩, ⟨rfl, rfl⟩, next _ fun h => ?_⟩
            rw [← es2 h, h2, eqd_b, eqd_bl]
            rfl
          · refine next _ fun h => ?_
            rw [← es2 h, h2]
            rfl
        · rintro r ⟨m, x4, x5, x6, rfl, hm, hl2, hsg⟩
          have el : (((s.cps.toList.map fun c => D.str ⟨#[c]⟩).zip ps).map pair2).length = s.length := by
            rw [List.length_map, List.length_zip, List.length_map, cl, hlen, Nat.min_self]
          rw [el] at hl2 hsg
          rw [List.drop_of_length_le (by omega), List.drop_of_length_le (by omega)] at hl2
          dsimp only
          subst hK
          walk_at "dl"
          have hw := okT_str.mp (hda.1 _ (List.mem_cons_self ..))
          refine onO_of (at0 _ ps) ⟨⟨eqOk_str hw.2, eqOk_str (by unfold okS; decide)⟩, ?_⟩
          rw [eqd_str]
          have good : alike w ps = false → R (.dat (.int m)) := fun ha => by
            refine q m ?_
            rw [ha]
            rcases hl2 with ⟨k0, e, h⟩ | ⟨h, h2⟩
            · have h : szs (size k) s.cps.toList ps = some (k0 + 0) := h
              rw [h]
              show m = ((k0 + 0 + 1 : Nat) : Int)
              omega
            · rw [h]
              exact h2
          refine ifB_dec (fun hf => ?_) (fun hf => good (by unfold alike; rw [decide_eq_false hf]; rfl))
          subst hf
          have e := sgn_fold es
          subst e
          have l5 : ps.length = 5 := hlen
          match ps, l5 with
          | [a, b, c, d, e], _ =>
            obtain ⟨s2, rfl, n2⟩ := name_str (show nameB c = true from hsg 2 120 c (by decide) rfl rfl (by decide))
            obtain ⟨s3, rfl, n3⟩ := name_str (show nameB d = true from hsg 3 120 d (by decide) rfl rfl (by decide))
            refine onO_of (a := D.str s2) rfl (onO_of (a := D.str s3) rfl ⟨⟨eqOk_str (name_ok n2), eqOk_str (name_ok n3)⟩, ?_⟩)
            rw [eqd_str]
            have ea : alike "fold" [a, b, .str s2, .str s3, e] = decide (s2 = s3) := rfl
            rw [ea] at low good
            refine ifB_dec (fun h => low ?_) (fun h => good (decide_eq_false h))
            rw [decide_eq_true h]
            rfl
      · rw [if_neg hlen] at low
        rw [decide_eq_false (by rw [List.length_cons]; omega)]
        exact ifB_T rfl (low rfl)
theorem len_w_right : ∀ ds xc R, sp_w_right ds xc R → ds.length = 1 := by
  rintro ds xc R ⟨d, rfl, _⟩
  rfl
theorem told_right {o : Option Nat} {r : Int} (h : Told o r) : decide (0 ≤ lefts o 200) = decide (r ≤ 200) := by
  cases o with
  | none =>
    have h : 1000 ≤ r := h
    rw [decide_eq_false (show ¬ r ≤ 200 by omega)]
    rfl
  | some k =>
    have h : r = k := h
    show decide (0 ≤ if (k : Int) ≤ 200 then (200 : Int) - k else -1) = _
    by_cases hk : (k : Int) ≤ 200
    · rw [if_pos hk, decide_eq_true (by omega), decide_eq_true (by omega)]
    · rw [if_neg hk, decide_eq_false (by omega), decide_eq_false (by omega)]
theorem pure_w_right : ∀ ds xc R, sp_w_right ds xc R → d_w_right X0 { nx := fun _ => R (.dat .non), rt := R } (args N_w_right ds) := by
  rintro ds xc R ⟨d, rfl, hd, q⟩
  show d_w_right X0 _ [some (.dat d), none]
  unfold d_w_right
  refine seq_k fun K hK => ?_; walk_at "dl"
  refine ⟨d, rfl, hd, ?_⟩
  subst hK
  walk_at "dl"
  refine ⟨rfl, d, 40, rfl, by decide, hd, fun r hr => ?_⟩
  walk_at "dl"
  refine ⟨⟨rfl, rfl⟩, ?_⟩
  rw [told_right hr, eqd_bl']
  refine ifB_T (by simp) ⟨d, rfl, hd, ?_⟩
  walk_at "dl"
  refine ⟨⟨rfl, rfl⟩, ?_⟩
  rw [told_right hr, eqd_bl', decide_eq_true rfl]
  exact q
theorem len_law : ∀ ds xc R, sp_law ds xc R → ds.length = 1 := by
  rintro ds xc R ⟨ns, rfl, _⟩
  rfl
theorem law_pre {ns : List Int} (h : ns.length ≤ 63) : sp_law [.scr ns] (fun _ => False) (fun v => v = .dat (.bl true)) := ⟨ns, rfl, h, rfl⟩
theorem bent_use {t : D} {nms : List Str} {P : Val → Prop} (hns : Nms nms) (ht : Gd 100 209 t) (h : ∀ x : Val, x.safe → okT 101 x.d = true → P x) : sp_w_bent 210 [.draw, t, .lst (nms.map D.str)] (fun _ => False) P :=
  ⟨t, nms, rfl, hns, by decide, ht, fun d hd => h (.dat d) trivial hd.1, fun l hl => h (.tmp (.lst l)) trivial hl.1⟩
theorem pure_law : ∀ ds xc R, sp_law ds xc R → d_law X0 { nx := fun _ => R (.dat .non), rt := R } (args N_law ds) := by
  rintro ds xc R ⟨ns, rfl, hl, q⟩
  show d_law X0 _ [some (.dat (.scr ns)), none, none, none, none, none, none, none, none]
  unfold d_law
  refine seq_k fun K hK => ?_; walk_at "dl"
  have hb : (if (if 12 < (ns.length : Int) then (12 : Int) else ns.length) > 1 then (if 12 < (ns.length : Int) then (12 : Int) else ns.length) else 1).toNat ≤ 12 := by split <;> split <;> omega
  refine ⟨by split <;> split <;> omega, ?_⟩
  generalize (if (if 12 < (ns.length : Int) then (12 : Int) else ns.length) > 1 then (if 12 < (ns.length : Int) then (12 : Int) else ns.length) else 1).toNat = tn at hb
  refine ⟨fun i r => ∃ x1 x2 x3 x4 x5 x6 x7 x8 : Option Val, r = [some (.dat (.scr ns)), x1, x2, x3, x4, x5, x6, x7, x8], ⟨_, _, _, _, _, _, _, _, rfl⟩, ?_, ?_⟩
  · rintro i x r hx ⟨x1, x2, x3, x4, x5, x6, x7, x8, rfl⟩
    obtain ⟨rfl, hlt⟩ := rng_get hx
    refine gN_mk ?_
    refine seq_k fun K hK => ?_; walk_at "dl"
    refine ⟨ns, _, rfl, by omega, by omega, ?_⟩
    subst hK
    refine seq_k fun K hK => ?_; walk_at "dl"
    refine ⟨4, rfl, by decide, by decide, fun nms hn1 hn2 => ?_⟩
    have hns : Nms nms := ⟨by omega, by omega, hn2⟩
    subst hK
    refine seq_k fun K hK => ?_; walk_at "dl"
    refine ⟨trivial, nms, 5, rfl, hns, by decide, by decide, fun t ht => ?_⟩
    have okt := okT_up (k := 101) (by decide) ht.1
    subst hK
    refine seq_k fun K hK => ?_; walk_at "dl"
    refine ⟨trivial, bent_use hns (ht.up (by decide)) fun b1 s1 o1 => ?_⟩
    refine ⟨s1, nms, 5, rfl, hns, by decide, by decide, fun t2 ht2 => ?_⟩
    walk_at "dl"
    refine bent_use hns (ht2.up (by decide)) fun b2 s2 o2 => ?_
    refine ⟨s2, by show 3 ≤ sizeLine; decide, ?_⟩
    subst hK
    refine seq_k fun K hK => ?_; walk_at "dl"
    refine ⟨trivial, 3, rfl, by decide, by decide, fun a a0 a1 => ?_⟩
    walk_at "dl"
    refine ⟨nms, rfl, hns, fun lf hlf => ?_⟩
    walk_at "dl"
    refine ⟨199 + a, lf, rfl, by omega, by omega, by omega, hlf, fun wd hwd => ?_⟩
    subst hK
    refine seq_k fun K hK => ?_; walk_at "dl"
    refine ⟨trivial, 3, rfl, by decide, by decide, fun b _ _ => ?_⟩
    walk_at "dl"
    refine ⟨nms, rfl, hns, fun lf2 hlf2 => ?_⟩
    walk_at "dl"
    refine ⟨39 + b, lf2, rfl, by omega, by omega, hlf2, fun cd hcd => ?_⟩
    subst hK
    refine seq_k fun K hK => ?_; walk_at "dl"
    refine ⟨trivial, bent_use hns (hwd.up (by decide)) fun b3 s3 o3 => ⟨s3, ?_⟩⟩
    refine bent_use hns (hcd.up (by decide)) fun b4 s4 o4 => ⟨s4, ?_⟩
    refine ⟨nms, rfl, hns, fun od hod => ?_⟩
    walk_at "dl"
    refine ⟨by show 5 ≤ sizeLine; decide, by show 3 + 5 ≤ sizeLine; decide, ?_⟩
    subst hK
    walk_at "dl"
    refine ⟨trivial, lc_map (fun _ => .bl true) (by show 8 ≤ 100000; decide) (fun x hx P hP => ?_) ?_⟩
    · refine gN_mk ?_
      walk_at "dl"
      refine ⟨x, rfl, ?_, hP⟩
      simp only [List.mem_append, List.mem_cons, List.not_mem_nil, or_false] at hx
      rcases hx with (rfl | rfl | rfl) | rfl | rfl | rfl | rfl | rfl
      · exact okt
      · exact o1
      · exact o2
      · exact okT_up (by decide) hwd.1
      · exact okT_up (by decide) hcd.1
      · exact o3
      · exact o4
      · exact hod.1
    · walk_at "dl"
      refine onO_of (a := [true, true, true, true, true, true, true, true]) rfl ?_
      exact ⟨_, _, _, _, _, _, _, _, rfl⟩
  · rintro r ⟨x1, x2, x3, x4, x5, x6, x7, x8, rfl⟩
    dsimp only
    subst hK
    walk_at "dl"
    exact q
/-! ### the text -/
def topS (i : Nat) : Stmt := PySem.Challenge.pw_gaprun_k02_terms_looked_at.main.body.getD i (.Pass ⟨0, 0, 0, 0⟩)
abbrev s_w_cell_at : Stmt := topS 12
theorem sc_w_cell_at : FnScope N_w_cell_at ["_law_script", "_law_k"] (defScope s_w_cell_at) := ⟨rfl, rfl, rfl, by decide +kernel, rfl, by decide +kernel, by decide +kernel⟩
abbrev s_w_begun : Stmt := topS 13
theorem sc_w_begun : FnScope N_w_begun ["_law_script", "_law_k"] (defScope s_w_begun) := ⟨rfl, rfl, rfl, by decide +kernel, rfl, by decide +kernel, by decide +kernel⟩
abbrev s_w_next : Stmt := topS 14
theorem sc_w_next : FnScope N_w_next ["_law_draw", "_law_many"] (defScope s_w_next) := ⟨rfl, rfl, rfl, by decide +kernel, rfl, by decide +kernel, by decide +kernel⟩
abbrev s_w_kept : Stmt := topS 16
theorem sc_w_kept : FnScope N_w_kept [] (defScope s_w_kept) := ⟨rfl, rfl, rfl, by decide +kernel, rfl, by decide +kernel, by decide +kernel⟩
abbrev s_w_any_name : Stmt := topS 17
theorem sc_w_any_name : FnScope N_w_any_name ["_law_draw"] (defScope s_w_any_name) := ⟨rfl, rfl, rfl, by decide +kernel, rfl, by decide +kernel, by decide +kernel⟩
abbrev s_w_some_names : Stmt := topS 18
theorem sc_w_some_names : FnScope N_w_some_names ["_law_draw", "_law_many"] (defScope s_w_some_names) := ⟨rfl, rfl, rfl, by decide +kernel, rfl, by decide +kernel, by decide +kernel⟩
abbrev s_w_pick : Stmt := topS 15
theorem sc_w_pick : FnScope N_w_pick ["_law_draw", "_law_some"] (defScope s_w_pick) := ⟨rfl, rfl, rfl, by decide +kernel, rfl, by decide +kernel, by decide +kernel⟩
abbrev s_w_any_number : Stmt := topS 20
theorem sc_w_any_number : FnScope N_w_any_number ["_law_draw"] (defScope s_w_any_number) := ⟨rfl, rfl, rfl, by decide +kernel, rfl, by decide +kernel, by decide +kernel⟩
abbrev s_w_leaf : Stmt := topS 21
theorem sc_w_leaf : FnScope N_w_leaf ["_law_draw", "_law_names"] (defScope s_w_leaf) := ⟨rfl, rfl, rfl, by decide +kernel, rfl, by decide +kernel, by decide +kernel⟩
abbrev s_w_signs : Stmt := topS 19
theorem sc_w_signs : FnScope N_w_signs ["_law_word"] (defScope s_w_signs) := ⟨rfl, rfl, rfl, by decide +kernel, rfl, by decide +kernel, by decide +kernel⟩
abbrev s_w_any_term : Stmt := topS 22
theorem sc_w_any_term : FnScope N_w_any_term ["_law_draw", "_law_names", "_law_deep"] (defScope s_w_any_term) := ⟨rfl, rfl, rfl, by decide +kernel, rfl, by decide +kernel, by decide +kernel⟩
abbrev s_w_wide : Stmt := topS 24
theorem sc_w_wide : FnScope N_w_wide ["_law_many", "_law_leaf_here"] (defScope s_w_wide) := ⟨rfl, rfl, rfl, by decide +kernel, rfl, by decide +kernel, by decide +kernel⟩
abbrev s_w_chain : Stmt := topS 25
theorem sc_w_chain : FnScope N_w_chain ["_law_deep", "_law_leaf_here"] (defScope s_w_chain) := ⟨rfl, rfl, rfl, by decide +kernel, rfl, by decide +kernel, by decide +kernel⟩
abbrev s_w_odd : Stmt := topS 27
theorem sc_w_odd : FnScope N_w_odd ["_law_draw", "_law_names"] (defScope s_w_odd) := ⟨rfl, rfl, rfl, by decide +kernel, rfl, by decide +kernel, by decide +kernel⟩
abbrev s_w_bent : Stmt := topS 28
theorem sc_w_bent : FnScope N_w_bent ["_law_draw", "_law_thing", "_law_names"] (defScope s_w_bent) := ⟨rfl, rfl, rfl, by decide +kernel, rfl, by decide +kernel, by decide +kernel⟩
abbrev s_is_name : Stmt := topS 7
theorem sc_is_name : FnScope N_is_name ["thing"] (defScope s_is_name) := ⟨rfl, rfl, rfl, by decide +kernel, rfl, by decide +kernel, by decide +kernel⟩
abbrev s_is_single : Stmt := topS 8
theorem sc_is_single : FnScope N_is_single ["sign", "thing"] (defScope s_is_single) := ⟨rfl, rfl, rfl, by decide +kernel, rfl, by decide +kernel, by decide +kernel⟩
abbrev s_left_behind : Stmt := topS 9
theorem sc_left_behind : FnScope N_left_behind ["thing", "left", "levels"] (defScope s_left_behind) := ⟨rfl, rfl, rfl, by decide +kernel, rfl, by decide +kernel, by decide +kernel⟩
abbrev s_is_term : Stmt := topS 10
theorem sc_is_term : FnScope N_is_term ["thing"] (defScope s_is_term) := ⟨rfl, rfl, rfl, by decide +kernel, rfl, by decide +kernel, by decide +kernel⟩
abbrev s_w_is_name : Stmt := topS 23
theorem sc_w_is_name : FnScope N_w_is_name ["_law_thing"] (defScope s_w_is_name) := ⟨rfl, rfl, rfl, by decide +kernel, rfl, by decide +kernel, by decide +kernel⟩
abbrev s_w_look : Stmt := topS 26
theorem sc_w_look : FnScope N_w_look ["_law_thing", "_law_deep"] (defScope s_w_look) := ⟨rfl, rfl, rfl, by decide +kernel, rfl, by decide +kernel, by decide +kernel⟩
abbrev s_w_right : Stmt := topS 29
theorem sc_w_right : FnScope N_w_right ["_law_thing"] (defScope s_w_right) := ⟨rfl, rfl, rfl, by decide +kernel, rfl, by decide +kernel, by decide +kernel⟩
abbrev s_law : Stmt := topS 30
theorem sc_law : FnScope N_law ["_law_script"] (defScope s_law) := ⟨rfl, rfl, rfl, by decide +kernel, rfl, by decide +kernel, by decide +kernel⟩
theorem bt_abs : bootBuiltins "abs" = some (.builtin "abs") := by decide +kernel
theorem bt_all : bootBuiltins "all" = some (.builtin "all") := by decide +kernel
theorem bt_int : bootBuiltins "int" = some (.type "int") := by decide +kernel
theorem bt_len : bootBuiltins "len" = some (.builtin "len") := by decide +kernel
theorem bt_list : bootBuiltins "list" = some (.type "list") := by decide +kernel
theorem bt_max : bootBuiltins "max" = some (.builtin "max") := by decide +kernel
theorem bt_min : bootBuiltins "min" = some (.builtin "min") := by decide +kernel
theorem bt_tuple : bootBuiltins "tuple" = some (.type "tuple") := by decide +kernel
structure Txt (w : World) (K : PySem.W.Frag) (mg : Str → Option Value) where
  f_w_cell_at : Addr
  fd_w_cell_at : FuncData
  F_w_cell_at : Fun K "_law_cell_at" "_law_cell_at" s_w_cell_at f_w_cell_at fd_w_cell_at
  g_w_cell_at : mg "_law_cell_at" = some (.ref f_w_cell_at)
  b_w_cell_at : Binds K fd_w_cell_at ["_law_script", "_law_k"] []
  f_w_begun : Addr
  fd_w_begun : FuncData
  F_w_begun : Fun K "_law_begun" "_law_begun" s_w_begun f_w_begun fd_w_begun
  g_w_begun : mg "_law_begun" = some (.ref f_w_begun)
  b_w_begun : Binds K fd_w_begun ["_law_script", "_law_k"] []
  f_w_next : Addr
  fd_w_next : FuncData
  F_w_next : Fun K "_law_next" "_law_next" s_w_next f_w_next fd_w_next
  g_w_next : mg "_law_next" = some (.ref f_w_next)
  b_w_next : Binds K fd_w_next ["_law_draw", "_law_many"] []
  f_w_kept : Addr
  fd_w_kept : FuncData
  F_w_kept : Fun K "_law_kept" "_law_kept" s_w_kept f_w_kept fd_w_kept
  g_w_kept : mg "_law_kept" = some (.ref f_w_kept)
  b_w_kept : Binds K fd_w_kept [] []
  f_w_any_name : Addr
  fd_w_any_name : FuncData
  F_w_any_name : Fun K "_law_any_name" "_law_any_name" s_w_any_name f_w_any_name fd_w_any_name
  g_w_any_name : mg "_law_any_name" = some (.ref f_w_any_name)
  b_w_any_name : Binds K fd_w_any_name ["_law_draw"] []
  f_w_some_names : Addr
  fd_w_some_names : FuncData
  F_w_some_names : Fun K "_law_some_names" "_law_some_names" s_w_some_names f_w_some_names fd_w_some_names
  g_w_some_names : mg "_law_some_names" = some (.ref f_w_some_names)
  b_w_some_names : Binds K fd_w_some_names ["_law_draw", "_law_many"] []
  f_w_pick : Addr
  fd_w_pick : FuncData
  F_w_pick : Fun K "_law_pick" "_law_pick" s_w_pick f_w_pick fd_w_pick
  g_w_pick : mg "_law_pick" = some (.ref f_w_pick)
  b_w_pick : Binds K fd_w_pick ["_law_draw", "_law_some"] []
  f_w_any_number : Addr
  fd_w_any_number : FuncData
  F_w_any_number : Fun K "_law_any_number" "_law_any_number" s_w_any_number f_w_any_number fd_w_any_number
  g_w_any_number : mg "_law_any_number" = some (.ref f_w_any_number)
  b_w_any_number : Binds K fd_w_any_number ["_law_draw"] []
  f_w_leaf : Addr
  fd_w_leaf : FuncData
  F_w_leaf : Fun K "_law_leaf" "_law_leaf" s_w_leaf f_w_leaf fd_w_leaf
  g_w_leaf : mg "_law_leaf" = some (.ref f_w_leaf)
  b_w_leaf : Binds K fd_w_leaf ["_law_draw", "_law_names"] []
  f_w_signs : Addr
  fd_w_signs : FuncData
  F_w_signs : Fun K "_law_signs" "_law_signs" s_w_signs f_w_signs fd_w_signs
  g_w_signs : mg "_law_signs" = some (.ref f_w_signs)
  b_w_signs : Binds K fd_w_signs ["_law_word"] []
  f_w_any_term : Addr
  fd_w_any_term : FuncData
  F_w_any_term : Fun K "_law_any_term" "_law_any_term" s_w_any_term f_w_any_term fd_w_any_term
  g_w_any_term : mg "_law_any_term" = some (.ref f_w_any_term)
  b_w_any_term : Binds K fd_w_any_term ["_law_draw", "_law_names", "_law_deep"] []
  f_w_wide : Addr
  fd_w_wide : FuncData
  F_w_wide : Fun K "_law_wide" "_law_wide" s_w_wide f_w_wide fd_w_wide
  g_w_wide : mg "_law_wide" = some (.ref f_w_wide)
  b_w_wide : Binds K fd_w_wide ["_law_many", "_law_leaf_here"] []
  f_w_chain : Addr
  fd_w_chain : FuncData
  F_w_chain : Fun K "_law_chain" "_law_chain" s_w_chain f_w_chain fd_w_chain
  g_w_chain : mg "_law_chain" = some (.ref f_w_chain)
  b_w_chain : Binds K fd_w_chain ["_law_deep", "_law_leaf_here"] []
  f_w_odd : Addr
  fd_w_odd : FuncData
  F_w_odd : Fun K "_law_odd" "_law_odd" s_w_odd f_w_odd fd_w_odd
  g_w_odd : mg "_law_odd" = some (.ref f_w_odd)
  b_w_odd : Binds K fd_w_odd ["_law_draw", "_law_names"] []
  f_w_bent : Addr
  fd_w_bent : FuncData
  F_w_bent : Fun K "_law_bent" "_law_bent" s_w_bent f_w_bent fd_w_bent
  g_w_bent : mg "_law_bent" = some (.ref f_w_bent)
  b_w_bent : Binds K fd_w_bent ["_law_draw", "_law_thing", "_law_names"] []
  f_is_name : Addr
  fd_is_name : FuncData
  F_is_name : Fun K "is_name" "is_name" s_is_name f_is_name fd_is_name
  g_is_name : mg "is_name" = some (.ref f_is_name)
  b_is_name : Binds K fd_is_name ["thing"] []
  f_is_single : Addr
  fd_is_single : FuncData
  F_is_single : Fun K "is_single" "is_single" s_is_single f_is_single fd_is_single
  g_is_single : mg "is_single" = some (.ref f_is_single)
  b_is_single : Binds K fd_is_single ["sign", "thing"] []
  f_left_behind : Addr
  fd_left_behind : FuncData
  F_left_behind : Fun K "left_behind" "left_behind" s_left_behind f_left_behind fd_left_behind
  g_left_behind : mg "left_behind" = some (.ref f_left_behind)
  b_left_behind : Binds K fd_left_behind ["thing", "left", "levels"] []
  f_is_term : Addr
  fd_is_term : FuncData
  F_is_term : Fun K "is_term" "is_term" s_is_term f_is_term fd_is_term
  g_is_term : mg "is_term" = some (.ref f_is_term)
  b_is_term : Binds K fd_is_term ["thing"] []
  f_w_is_name : Addr
  fd_w_is_name : FuncData
  F_w_is_name : Fun K "_law_is_name" "_law_is_name" s_w_is_name f_w_is_name fd_w_is_name
  g_w_is_name : mg "_law_is_name" = some (.ref f_w_is_name)
  b_w_is_name : Binds K fd_w_is_name ["_law_thing"] []
  f_w_look : Addr
  fd_w_look : FuncData
  F_w_look : Fun K "_law_look" "_law_look" s_w_look f_w_look fd_w_look
  g_w_look : mg "_law_look" = some (.ref f_w_look)
  b_w_look : Binds K fd_w_look ["_law_thing", "_law_deep"] []
  f_w_right : Addr
  fd_w_right : FuncData
  F_w_right : Fun K "_law_right" "_law_right" s_w_right f_w_right fd_w_right
  g_w_right : mg "_law_right" = some (.ref f_w_right)
  b_w_right : Binds K fd_w_right ["_law_thing"] []
  f_law : Addr
  fd_law : FuncData
  F_law : Fun K "law" "law" s_law f_law fd_law
  g_law : mg "law" = some (.ref f_law)
  b_law : Binds K fd_law ["_law_script"] []
  z_abs : mg "abs" = none
  z_all : mg "all" = none
  z_bool : mg "bool" = none
  z_int : mg "int" = none
  z_isinstance : mg "isinstance" = none
  z_len : mg "len" = none
  z_list : mg "list" = none
  z_max : mg "max" = none
  z_min : mg "min" = none
  z_range : mg "range" = none
  z_str : mg "str" = none
  z_tuple : mg "tuple" = none
  z_zip : mg "zip" = none
  u_KEPT : Value
  v_KEPT : V
  g_KEPT : mg "KEPT" = some u_KEPT ∧ RelV v_KEPT u_KEPT ∧ ∀ B, Rep K B v_KEPT g_KEPT
  u_LETTERS : Value
  v_LETTERS : V
  g_LETTERS : mg "LETTERS" = some u_LETTERS ∧ RelV v_LETTERS u_LETTERS ∧ ∀ B, Rep K B v_LETTERS g_LETTERS
  u_MOST_DEEP : Value
  v_MOST_DEEP : V
  g_MOST_DEEP : mg "MOST_DEEP" = some u_MOST_DEEP ∧ RelV v_MOST_DEEP u_MOST_DEEP ∧ ∀ B, Rep K B v_MOST_DEEP g_MOST_DEEP
  u_MOST_LETTERS : Value
  v_MOST_LETTERS : V
  g_MOST_LETTERS : mg "MOST_LETTERS" = some u_MOST_LETTERS ∧ RelV v_MOST_LETTERS u_MOST_LETTERS ∧ ∀ B, Rep K B v_MOST_LETTERS g_MOST_LETTERS
  u_MOST_PARTS : Value
  v_MOST_PARTS : V
  g_MOST_PARTS : mg "MOST_PARTS" = some u_MOST_PARTS ∧ RelV v_MOST_PARTS u_MOST_PARTS ∧ ∀ B, Rep K B v_MOST_PARTS g_MOST_PARTS
  a_SIGNS : Addr
  g_SIGNS : mg "SIGNS" = some (.ref a_SIGNS)
  k_SIGNS : KTab K w a_SIGNS tab_SIGNS
section
variable {P : Program} {w : World} {K : PySem.W.Frag} {mg : Str → Option Value} {base : Heap}
theorem ok_w_cell_at (T : Txt w K mg) : FnOk P w K mg base CX0 1 T.f_w_cell_at T.fd_w_cell_at ["_law_script", "_law_k"] (spD K sp_w_cell_at) :=
  fn_d T.F_w_cell_at sc_w_cell_at len_w_cell_at (fun cdv A outer s H hr => (qss_cons (qs_if (qt_lt (q_var 1) (q_b1 rel_len call_len (by rfl) T.z_len bt_len (q_var 0)))
  (qss_one (qs_ret (q_sub1 (q_var 0) (q_var 1))))
  qss_nil)
  (qss_one (qs_ret q_int)))) pure_w_cell_at
theorem ok_w_begun (T : Txt w K mg) : FnOk P w K mg base CX0 2 T.f_w_begun T.fd_w_begun ["_law_script", "_law_k"] (spD K sp_w_begun) :=
  fn_d T.F_w_begun sc_w_begun len_w_begun (fun cdv A outer s H hr => (qss_cons (qs_set (i := 2) sc_w_begun.nd rfl (by first | exact Or.inl rfl | exact Or.inr rfl) (q_b1 rel_abs call_abs (by rfl) T.z_abs bt_abs (q_call (ok_w_cell_at T) (hr.mono (by decide)) (by rfl) T.g_w_cell_at T.F_w_cell_at.kp T.b_w_cell_at (qa_cons (q_varM 0) (qa_cons (q_varM 1) qa_nil)))))
  (qss_cons (qs_set (i := 3) sc_w_begun.nd rfl (by first | exact Or.inl rfl | exact Or.inr rfl) (q_mod (q_add (q_add (q_mul (q_mod (q_var 2) q_int) q_int) (q_mul q_int (q_var 1))) q_int) q_int))
  (qss_one (qs_ret (q_draw (q_disp (QPs.cons q_str (q_b2 rel_max (call_max2 rfl) (by rfl) T.z_max bt_max q_int (q_sub (q_var 2) (q_pow q_int q_int))) (QPs.cons q_str (q_mod (q_add (q_mul (q_var 3) (q_var 3)) (q_mul q_int (q_var 1))) q_int) QPs.nil)) (by rfl) (by rfl) (fun z => by cases z) (by decide)))))))) pure_w_begun
theorem ok_w_next (T : Txt w K mg) : FnOk P w K mg base CX0 1 T.f_w_next T.fd_w_next ["_law_draw", "_law_many"] (spD K sp_w_next) :=
  fn_d T.F_w_next sc_w_next len_w_next (fun cdv A outer s H hr => (qss_cons (qs_if (qt_gt (q_drawGet 0 (.inl rfl) (hu_of hr) (pv 0) (fun _ _ => rfl)) q_int)
  (qss_cons (qs_set (i := 3) sc_w_next.nd rfl (by first | exact Or.inl rfl | exact Or.inr rfl) (q_mod (q_drawGet 0 (.inl rfl) (hu_of hr) (pv 0) (fun _ _ => rfl)) (q_var 1)))
  (qss_cons (qs_drawPut 0 (.inl rfl) (hu_of hr) (pv 0) (q_div (q_drawGet 0 (.inl rfl) (hu_of hr) (pv 0) (fun _ _ => rfl)) (q_var 1)))
  (qss_one (qs_retV 3))))
  qss_nil)
  (qss_cons (qs_drawPut 0 (.inr rfl) (hu_of hr) (pv 0) (q_mod (q_add (q_mul (q_drawGet 0 (.inr rfl) (hu_of hr) (pv 0) (fun _ _ => rfl)) q_int) q_int) q_int))
  (qss_cons (qs_set (i := 2) sc_w_next.nd rfl (by first | exact Or.inl rfl | exact Or.inr rfl) (q_mod (q_mul (q_drawGet 0 (.inr rfl) (hu_of hr) (pv 0) (fun _ _ => rfl)) (q_drawGet 0 (.inr rfl) (hu_of hr) (pv 0) (fun _ _ => rfl))) q_int))
  (qss_one (qs_ret (q_mod (q_div (q_var 2) q_int) (q_var 1)))))))) pure_w_next
theorem ok_w_kept (T : Txt w K mg) : FnOk P w K mg base CX0 1 T.f_w_kept T.fd_w_kept [] (spD K sp_w_kept) :=
  fn_d T.F_w_kept sc_w_kept len_w_kept (fun cdv A outer s H hr => (qss_cons (qs_set (i := 0) sc_w_kept.nd rfl (by first | exact Or.inl rfl | exact Or.inr rfl) q_str)
  (qss_one (qs_ret (q_add (q_split (q_var 0) q_str) (q_lst (qa_cons q_str (qa_cons q_str (qa_cons q_str (qa_cons q_str (qa_cons q_str qa_nil))))))))))) pure_w_kept
theorem ok_w_any_name (T : Txt w K mg) : FnOk P w K mg base CX0 2 T.f_w_any_name T.fd_w_any_name ["_law_draw"] (spD K sp_w_any_name) :=
  fn_d T.F_w_any_name sc_w_any_name len_w_any_name (fun cdv A outer s H hr => (qss_cons (qs_set (i := 1) sc_w_any_name.nd rfl (by first | exact Or.inl rfl | exact Or.inr rfl) q_str)
  (qss_cons (qs_set (i := 2) sc_w_any_name.nd rfl (by first | exact Or.inl rfl | exact Or.inr rfl) (q_join q_str (q_lc (own := [("_law_k", 3)]) rfl sc_w_any_name.nd (qi_rng1 (by rfl) T.z_range (qa_cons (q_add q_int (q_call (ok_w_next T) (hr.mono (by decide)) (by rfl) T.g_w_next T.F_w_next.kp T.b_w_next (qa_cons (q_varM 0) (qa_cons q_int qa_nil)))) qa_nil)) (blkOk_by (own := [("_law_k", 3)]) (N := N_w_any_name) (sc := defScope s_w_any_name) (by decide +kernel)) (fun _ _ _ _ _ => (qg_name (i := 3) (vs := [3]) (by decide) sc_w_any_name.nd rfl (by first | exact Or.inl rfl | exact Or.inr rfl))) (fun _ _ _ _ _ => qts_nil) (fun _ _ _ _ _ => (q_sub1 (q_var 1) (q_call (ok_w_next T) (hr.mono (by decide)) (by rfl) T.g_w_next T.F_w_next.kp T.b_w_next (qa_cons (q_varM 0) (qa_cons q_int qa_nil))))))))
  (qss_one (qs_ret (q_sub1 (q_lst (qa_cons (q_varM 2) (qa_cons (q_add (q_slice (q_var 2) qo_none (qo_some q_int)) q_str) qa_nil))) (q_t1 rel_int call_int1 (by rfl) T.z_int bt_int (q_in (q_var 2) (q_call0 (ok_w_kept T) (hr.mono (by decide)) (by rfl) T.g_w_kept T.F_w_kept.kp T.b_w_kept))))))))) pure_w_any_name
theorem ok_w_some_names (T : Txt w K mg) : FnOk P w K mg base CX0 3 T.f_w_some_names T.fd_w_some_names ["_law_draw", "_law_many"] (spD K sp_w_some_names) :=
  fn_d T.F_w_some_names sc_w_some_names len_w_some_names (fun cdv A outer s H hr => (qss_cons (qs_set (i := 2) sc_w_some_names.nd rfl (by first | exact Or.inl rfl | exact Or.inr rfl) q_str)
  (qss_cons (qs_set (i := 3) sc_w_some_names.nd rfl (by first | exact Or.inl rfl | exact Or.inr rfl) (q_call (ok_w_next T) (hr.mono (by decide)) (by rfl) T.g_w_next T.F_w_next.kp T.b_w_next (qa_cons (q_varM 0) (qa_cons q_int qa_nil))))
  (qss_cons (qs_set (i := 4) sc_w_some_names.nd rfl (by first | exact Or.inl rfl | exact Or.inr rfl) (q_lst qa_nil))
  (qss_cons (qs_for (vs := [5]) PassesOwn.never rfl (qi_rng1 (by rfl) T.z_range (qa_cons (q_varM 1) qa_nil)) (qg_name (i := 5) (vs := [5]) (by decide) sc_w_some_names.nd rfl (by first | exact Or.inl rfl | exact Or.inr rfl))
  (qss_cons (qs_set (i := 6) sc_w_some_names.nd rfl (by first | exact Or.inl rfl | exact Or.inr rfl) (q_add (q_sub1 (q_var 2) (q_mod (q_add (q_var 3) (q_var 5)) q_int)) (q_slice (q_call (ok_w_any_name T) (hr.mono (by decide)) (by rfl) T.g_w_any_name T.F_w_any_name.kp T.b_w_any_name (qa_cons (q_varM 0) qa_nil)) qo_none (qo_some (q_call (ok_w_next T) (hr.mono (by decide)) (by rfl) T.g_w_next T.F_w_next.kp T.b_w_next (qa_cons (q_varM 0) (qa_cons q_int qa_nil)))))))
  (qss_cons (qs_if (PW.pt (qw_and (qt_gt (q_var 5) q_int) (qw_and (qt_lt (q_b1 rel_len call_len (by rfl) T.z_len bt_len (q_sub1 (q_var 4) (q_neg q_int))) q_int) (pw_and1 (qt_eq (q_call (ok_w_next T) (hr.mono (by decide)) (by rfl) T.g_w_next T.F_w_next.kp T.b_w_next (qa_cons (q_varM 0) (qa_cons q_int qa_nil))) q_int hr.units)))))
  (qss_one (qs_set (i := 6) sc_w_some_names.nd rfl (by first | exact Or.inl rfl | exact Or.inr rfl) (q_add (q_sub1 (q_var 4) (q_neg q_int)) (q_sub1 (q_var 2) (q_call (ok_w_next T) (hr.mono (by decide)) (by rfl) T.g_w_next T.F_w_next.kp T.b_w_next (qa_cons (q_varM 0) (qa_cons q_int qa_nil)))))))
  qss_nil)
  (qss_one (qs_append (i := 4) (pv 4) (q_sub1 (q_lst (qa_cons (q_varM 6) (qa_cons (q_add (q_slice (q_var 6) qo_none (qo_some q_int)) q_str) qa_nil))) (q_t1 rel_int call_int1 (by rfl) T.z_int bt_int (q_in (q_var 6) (q_call0 (ok_w_kept T) (hr.mono (by decide)) (by rfl) T.g_w_kept T.F_w_kept.kp T.b_w_kept)))) (pe_bm PySem.F.plainAttrs_list PySem.F.slot_list_append PySem.F.type_list_append mt_append (pv 4) (pa_cons (q_sub1 (q_lst (qa_cons (q_varM 6) (qa_cons (q_add (q_slice (q_var 6) qo_none (qo_some q_int)) q_str) qa_nil))) (q_t1 rel_int call_int1 (by rfl) T.z_int bt_int (q_in (q_var 6) (q_call0 (ok_w_kept T) (hr.mono (by decide)) (by rfl) T.g_w_kept T.F_w_kept.kp T.b_w_kept)))) pa_nil)))))))
  (qss_one (qs_retV 4))))))) pure_w_some_names
theorem ok_w_pick (T : Txt w K mg) : FnOk P w K mg base CX0 2 T.f_w_pick T.fd_w_pick ["_law_draw", "_law_some"] (spD K sp_w_pick) :=
  fn_d T.F_w_pick sc_w_pick len_w_pick (fun cdv A outer s H hr => (qss_one (qs_ret (q_sub1 (q_var 1) (q_call (ok_w_next T) (hr.mono (by decide)) (by rfl) T.g_w_next T.F_w_next.kp T.b_w_next (qa_cons (q_varM 0) (qa_cons (q_b1 rel_len call_len (by rfl) T.z_len bt_len (q_var 1)) qa_nil))))))) pure_w_pick
theorem ok_w_any_number (T : Txt w K mg) : FnOk P w K mg base CX0 3 T.f_w_any_number T.fd_w_any_number ["_law_draw"] (spD K sp_w_any_number) :=
  fn_d T.F_w_any_number sc_w_any_number len_w_any_number (fun cdv A outer s H hr => (qss_cons (qs_set (i := 1) sc_w_any_number.nd rfl (by first | exact Or.inl rfl | exact Or.inr rfl) (q_lst (qa_cons (q_sub (q_call (ok_w_next T) (hr.mono (by decide)) (by rfl) T.g_w_next T.F_w_next.kp T.b_w_next (qa_cons (q_varM 0) (qa_cons q_int qa_nil))) q_int) (qa_cons (q_sub (q_sub (q_pow q_int q_int) q_int) (q_call (ok_w_next T) (hr.mono (by decide)) (by rfl) T.g_w_next T.F_w_next.kp T.b_w_next (qa_cons (q_varM 0) (qa_cons q_int qa_nil)))) (qa_cons (q_sub q_int (q_call (ok_w_next T) (hr.mono (by decide)) (by rfl) T.g_w_next T.F_w_next.kp T.b_w_next (qa_cons (q_varM 0) (qa_cons (q_pow q_int q_int) qa_nil)))) (qa_cons q_int (qa_cons q_int qa_nil)))))))
  (qss_one (qs_fz 1 (qs_ret (q_call (ok_w_pick T) (hr.mono (by decide)) (by rfl) T.g_w_pick T.F_w_pick.kp T.b_w_pick (qa_cons (q_varM 0) (qa_cons (q_varM 1) qa_nil)))))))) pure_w_any_number
theorem ok_w_leaf (T : Txt w K mg) : FnOk P w K mg base CX0 4 T.f_w_leaf T.fd_w_leaf ["_law_draw", "_law_names"] (spD K sp_w_leaf) :=
  fn_d T.F_w_leaf sc_w_leaf len_w_leaf (fun cdv A outer s H hr => (qss_cons (qs_set (i := 2) sc_w_leaf.nd rfl (by first | exact Or.inl rfl | exact Or.inr rfl) (q_call (ok_w_next T) (hr.mono (by decide)) (by rfl) T.g_w_next T.F_w_next.kp T.b_w_next (qa_cons (q_varM 0) (qa_cons q_int qa_nil))))
  (qss_cons (qs_if (qt_eq (q_var 2) q_int hr.units)
  (qss_one (qs_ret (q_tup (qa_cons q_str (qa_cons (q_call (ok_w_any_number T) (hr.mono (by decide)) (by rfl) T.g_w_any_number T.F_w_any_number.kp T.b_w_any_number (qa_cons (q_varM 0) qa_nil)) qa_nil)))))
  qss_nil)
  (qss_cons (qs_if (qt_eq (q_var 2) q_int hr.units)
  (qss_one (qs_ret (q_tup (qa_cons q_str (qa_cons (q_eq hr.units (q_call (ok_w_next T) (hr.mono (by decide)) (by rfl) T.g_w_next T.F_w_next.kp T.b_w_next (qa_cons (q_varM 0) (qa_cons q_int qa_nil))) q_int) qa_nil)))))
  qss_nil)
  (qss_cons (qs_if (qt_eq (q_var 2) q_int hr.units)
  (qss_one (qs_ret (q_tup (qa_cons q_str qa_nil))))
  qss_nil)
  (qss_cons (qs_if (qt_eq (q_var 2) q_int hr.units)
  (qss_one (qs_ret (q_tup (qa_cons q_str (qa_cons (q_call (ok_w_pick T) (hr.mono (by decide)) (by rfl) T.g_w_pick T.F_w_pick.kp T.b_w_pick (qa_cons (q_varM 0) (qa_cons (q_varM 1) qa_nil))) qa_nil)))))
  qss_nil)
  (qss_one (qs_ret (q_tup (qa_cons q_str (qa_cons (q_call (ok_w_pick T) (hr.mono (by decide)) (by rfl) T.g_w_pick T.F_w_pick.kp T.b_w_pick (qa_cons (q_varM 0) (qa_cons (q_varM 1) qa_nil))) qa_nil))))))))))) pure_w_leaf
theorem ok_w_signs (T : Txt w K mg) : FnOk P w K mg base CX0 1 T.f_w_signs T.fd_w_signs ["_law_word"] (spD K sp_w_signs) :=
  fn_d T.F_w_signs sc_w_signs len_w_signs (fun cdv A outer s H hr => (qss_cons (qs_set (i := 1) sc_w_signs.nd rfl (by first | exact Or.inl rfl | exact Or.inr rfl) (q_disp (QPs.cons q_str q_str (QPs.cons q_str q_str (QPs.cons q_str q_str (QPs.cons q_str q_str (QPs.cons q_str q_str (QPs.cons q_str q_str (QPs.cons q_str q_str QPs.nil))))))) (by rfl) (by rfl) (fun z => by cases z) (by decide)))
  (qss_cons (qs_update (i := 1) (q_disp (QPs.cons q_str q_str (QPs.cons q_str q_str (QPs.cons q_str q_str (QPs.cons q_str q_str (QPs.cons q_str q_str (QPs.cons q_str q_str QPs.nil)))))) (by rfl) (by rfl) (fun z => by cases z) (by decide)) (pe_bm PySem.F.plainAttrs_dict PySem.F.slot_dict_update PySem.F.type_dict_update mt_update (pv 1) (pa_cons (q_disp (QPs.cons q_str q_str (QPs.cons q_str q_str (QPs.cons q_str q_str (QPs.cons q_str q_str (QPs.cons q_str q_str (QPs.cons q_str q_str QPs.nil)))))) (by rfl) (by rfl) (fun z => by cases z) (by decide)) pa_nil)))
  (qss_cons (qs_update (i := 1) (q_disp (QPs.cons q_str q_str (QPs.cons q_str q_str (QPs.cons q_str q_str (QPs.cons q_str q_str (QPs.cons q_str q_str (QPs.cons q_str q_str QPs.nil)))))) (by rfl) (by rfl) (fun z => by cases z) (by decide)) (pe_bm PySem.F.plainAttrs_dict PySem.F.slot_dict_update PySem.F.type_dict_update mt_update (pv 1) (pa_cons (q_disp (QPs.cons q_str q_str (QPs.cons q_str q_str (QPs.cons q_str q_str (QPs.cons q_str q_str (QPs.cons q_str q_str (QPs.cons q_str q_str QPs.nil)))))) (by rfl) (by rfl) (fun z => by cases z) (by decide)) pa_nil)))
  (qss_one (qs_ret (q_dget2 (hu_of hr) (q_var 1) (q_var 0) q_non m2_of))))))) pure_w_signs
theorem ok_w_any_term (T : Txt w K mg) : ∀ n : Nat, FnOk P w K mg base CX0 (n + 4) T.f_w_any_term T.fd_w_any_term ["_law_draw", "_law_names", "_law_deep"] (spD K (sp_w_any_term n))
  | 0 => fn_no no_w_any_term
  | n + 1 => by
    have ih := ok_w_any_term T n
    have h : FnOk P w K mg base CX0 ((n + 4) + 1) T.f_w_any_term T.fd_w_any_term ["_law_draw", "_law_names", "_law_deep"] (spD K (sp_w_any_term (n + 1))) := fn_d T.F_w_any_term sc_w_any_term (len_w_any_term (n + 1)) (fun cdv A outer s H hr => (qss_cons (qs_if (PW.pt (qw_or (qt_lt (q_var 2) q_int) (pw_or1 (qt_eq (q_call (ok_w_next T) (hr.mono (by omega)) (by rfl) T.g_w_next T.F_w_next.kp T.b_w_next (qa_cons (q_varM 0) (qa_cons q_int qa_nil))) q_int hr.units))))
  (qss_one (qs_ret (q_call (ok_w_leaf T) (hr.mono (by omega)) (by rfl) T.g_w_leaf T.F_w_leaf.kp T.b_w_leaf (qa_cons (q_varM 0) (qa_cons (q_varM 1) qa_nil)))))
  qss_nil)
  (qss_cons (qs_set (i := 3) sc_w_any_term.nd rfl (by first | exact Or.inl rfl | exact Or.inr rfl) (q_lst (qa_cons q_str (qa_cons q_str (qa_cons q_str (qa_cons q_str (qa_cons q_str (qa_cons q_str (qa_cons q_str (qa_cons q_str (qa_cons q_str (qa_cons q_str (qa_cons q_str (qa_cons q_str (qa_cons q_str qa_nil)))))))))))))))
  (qss_cons (qs_set (i := 4) sc_w_any_term.nd rfl (by first | exact Or.inl rfl | exact Or.inr rfl) (q_call (ok_w_pick T) (hr.mono (by omega)) (by rfl) T.g_w_pick T.F_w_pick.kp T.b_w_pick (qa_cons (q_varM 0) (qa_cons (q_share (q_add (q_var 3) (q_lst (qa_cons q_str (qa_cons q_str (qa_cons q_str qa_nil)))))) qa_nil))))
  (qss_cons (qs_set (i := 5) sc_w_any_term.nd rfl (by first | exact Or.inl rfl | exact Or.inr rfl) (q_lst (qa_cons (q_varM 4) qa_nil)))
  (qss_cons (qs_for (vs := [6]) PassesOwn.never rfl (qi_any (q_call (ok_w_signs T) (hr.mono (by omega)) (by rfl) T.g_w_signs T.F_w_signs.kp T.b_w_signs (qa_cons (q_varM 4) qa_nil))) (qg_name (i := 6) (vs := [6]) (by decide) sc_w_any_term.nd rfl (by first | exact Or.inl rfl | exact Or.inr rfl))
  (qss_one (qs_if (qt_eq (q_var 6) q_str hr.units)
  (qss_one (qs_append (i := 5) (pv 5) (q_call ih (hr.mono (by omega)) (by rfl) T.g_w_any_term T.F_w_any_term.kp T.b_w_any_term (qa_cons (q_varM 0) (qa_cons (q_varM 1) (qa_cons (q_sub (q_var 2) q_int) qa_nil)))) (pe_bm PySem.F.plainAttrs_list PySem.F.slot_list_append PySem.F.type_list_append mt_append (pv 5) (pa_cons (q_call ih (hr.mono (by omega)) (by rfl) T.g_w_any_term T.F_w_any_term.kp T.b_w_any_term (qa_cons (q_varM 0) (qa_cons (q_varM 1) (qa_cons (q_sub (q_var 2) q_int) qa_nil)))) pa_nil))))
  (qss_one (qs_append (i := 5) (pv 5) (q_call (ok_w_pick T) (hr.mono (by omega)) (by rfl) T.g_w_pick T.F_w_pick.kp T.b_w_pick (qa_cons (q_varM 0) (qa_cons (q_varM 1) qa_nil))) (pe_bm PySem.F.plainAttrs_list PySem.F.slot_list_append PySem.F.type_list_append mt_append (pv 5) (pa_cons (q_call (ok_w_pick T) (hr.mono (by omega)) (by rfl) T.g_w_pick T.F_w_pick.kp T.b_w_pick (qa_cons (q_varM 0) (qa_cons (q_varM 1) qa_nil))) pa_nil)))))))
  (qss_cons (qs_if (PW.pt (qw_and (qt_eq (q_var 4) q_str hr.units) (pw_and1 (qt_eq (q_sub1 (q_var 5) q_int) (q_sub1 (q_var 5) q_int) hr.units))))
  (qss_one (qs_put 5 (hu_of hr) (pv 5) q_int (q_sub1 (q_var 1) (q_t1 rel_int call_int1 (by rfl) T.z_int bt_int (q_eq hr.units (q_sub1 (q_var 5) q_int) (q_sub1 (q_var 1) q_int))))))
  qss_nil)
  (qss_one (qs_ret (q_t1 rel_tuple call_tuple_of (by rfl) T.z_tuple bt_tuple (q_var 5))))))))))) (pure_w_any_term n)
    rw [Nat.add_right_comm]
    exact h
theorem ok_w_wide (T : Txt w K mg) : ∀ n : Nat, FnOk P w K mg base CX0 (n + 0) T.f_w_wide T.fd_w_wide ["_law_many", "_law_leaf_here"] (spD K (sp_w_wide n))
  | 0 => fn_no no_w_wide
  | n + 1 => by
    have ih := ok_w_wide T n
    have h : FnOk P w K mg base CX0 ((n + 0) + 1) T.f_w_wide T.fd_w_wide ["_law_many", "_law_leaf_here"] (spD K (sp_w_wide (n + 1))) := fn_d T.F_w_wide sc_w_wide (len_w_wide (n + 1)) (fun cdv A outer s H hr => (qss_cons (qs_if (qt_eq (q_var 0) q_int hr.units)
  (qss_one (qs_retV 1))
  qss_nil)
  (qss_cons (qs_if (qt_eq (q_mod (q_var 0) q_int) q_int hr.units)
  (qss_one (qs_ret (q_tup (qa_cons q_str (qa_cons (q_call ih (hr.mono (by omega)) (by rfl) T.g_w_wide T.F_w_wide.kp T.b_w_wide (qa_cons (q_sub (q_var 0) q_int) (qa_cons (q_varM 1) qa_nil))) qa_nil)))))
  qss_nil)
  (qss_one (qs_ret (q_tup (qa_cons q_str (qa_cons (q_call ih (hr.mono (by omega)) (by rfl) T.g_w_wide T.F_w_wide.kp T.b_w_wide (qa_cons (q_div (q_var 0) q_int) (qa_cons (q_varM 1) qa_nil))) (qa_cons (q_call ih (hr.mono (by omega)) (by rfl) T.g_w_wide T.F_w_wide.kp T.b_w_wide (qa_cons (q_sub (q_sub (q_var 0) q_int) (q_div (q_var 0) q_int)) (qa_cons (q_varM 1) qa_nil))) qa_nil))))))))) (pure_w_wide n)
    rw [Nat.add_right_comm]
    exact h
theorem ok_w_chain (T : Txt w K mg) : FnOk P w K mg base CX0 1 T.f_w_chain T.fd_w_chain ["_law_deep", "_law_leaf_here"] (spD K sp_w_chain) :=
  fn_d T.F_w_chain sc_w_chain len_w_chain (fun cdv A outer s H hr => (qss_cons (qs_for (vs := [2]) PassesOwn.never rfl (qi_rng1 (by rfl) T.z_range (qa_cons (q_sub (q_var 0) q_int) qa_nil)) (qg_name (i := 2) (vs := [2]) (by decide) sc_w_chain.nd rfl (by first | exact Or.inl rfl | exact Or.inr rfl))
  (qss_one (qs_set (i := 1) sc_w_chain.nd rfl (by first | exact Or.inl rfl | exact Or.inr rfl) (q_tup (qa_cons q_str (qa_cons (q_varM 1) qa_nil))))))
  (qss_one (qs_retV 1)))) pure_w_chain
theorem ok_w_odd (T : Txt w K mg) : FnOk P w K mg base CX0 3 T.f_w_odd T.fd_w_odd ["_law_draw", "_law_names"] (spD K sp_w_odd) :=
  fn_d T.F_w_odd sc_w_odd len_w_odd (fun cdv A outer s H hr => (qss_cons (qs_set (i := 2) sc_w_odd.nd rfl (by first | exact Or.inl rfl | exact Or.inr rfl) (q_tup (qa_cons q_str qa_nil)))
  (qss_cons (qs_set (i := 3) sc_w_odd.nd rfl (by first | exact Or.inl rfl | exact Or.inr rfl) (q_lst (qa_cons q_non (qa_cons q_bl (qa_cons q_bl (qa_cons q_int (qa_cons q_int (qa_cons (q_neg q_int) (qa_cons q_str (qa_cons q_str (qa_cons q_str (qa_cons (q_tup qa_nil) (qa_cons (q_share (q_lst qa_nil)) (qa_cons (q_share q_newD) (qa_cons (q_varM 2) (qa_cons (q_share (q_lst (qa_cons q_str qa_nil))) (qa_cons (q_tup (qa_cons q_str (qa_cons q_int qa_nil))) (qa_cons (q_tup (qa_cons q_str qa_nil)) (qa_cons (q_tup (qa_cons q_non qa_nil)) qa_nil)))))))))))))))))))
  (qss_cons (qs_set (i := 3) sc_w_odd.nd rfl (by first | exact Or.inl rfl | exact Or.inr rfl) (q_add (q_var 3) (q_lst (qa_cons (q_tup (qa_cons q_str (qa_cons q_bl qa_nil))) (qa_cons (q_tup (qa_cons q_str (qa_cons q_str qa_nil))) (qa_cons (q_tup (qa_cons q_str (qa_cons q_int qa_nil))) (qa_cons (q_tup (qa_cons q_str (qa_cons q_int qa_nil))) (qa_cons (q_tup (qa_cons q_str (qa_cons q_bl qa_nil))) (qa_cons (q_tup (qa_cons q_str (qa_cons q_str qa_nil))) qa_nil)))))))))
  (qss_cons (qs_set (i := 3) sc_w_odd.nd rfl (by first | exact Or.inl rfl | exact Or.inr rfl) (q_add (q_var 3) (q_lst (qa_cons (q_tup (qa_cons q_str (qa_cons q_str qa_nil))) (qa_cons (q_tup (qa_cons q_str (qa_cons (q_share (q_lst (qa_cons q_str qa_nil))) qa_nil))) (qa_cons (q_tup (qa_cons q_str qa_nil)) (qa_cons (q_tup (qa_cons q_str (qa_cons (q_varM 2) (qa_cons (q_varM 2) qa_nil)))) (qa_cons (q_tup (qa_cons q_str (qa_cons (q_varM 2) (qa_cons (q_varM 2) qa_nil)))) (qa_cons (q_tup (qa_cons q_str (qa_cons (q_varM 2) qa_nil))) qa_nil)))))))))
  (qss_cons (qs_set (i := 3) sc_w_odd.nd rfl (by first | exact Or.inl rfl | exact Or.inr rfl) (q_add (q_var 3) (q_lst (qa_cons (q_tup (qa_cons q_str (qa_cons (q_varM 2) (qa_cons (q_varM 2) (qa_cons q_str (qa_cons q_str (qa_cons (q_varM 2) qa_nil))))))) (qa_cons (q_tup (qa_cons q_str (qa_cons (q_varM 2) (qa_cons (q_varM 2) (qa_cons q_str (qa_cons q_str (qa_cons (q_varM 2) qa_nil))))))) (qa_cons (q_tup (qa_cons q_str (qa_cons q_str (qa_cons (q_varM 2) qa_nil)))) (qa_cons (q_sub1 (q_var 1) q_int) qa_nil)))))))
  (qss_one (qs_ret (q_call (ok_w_pick T) (hr.mono (by decide)) (by rfl) T.g_w_pick T.F_w_pick.kp T.b_w_pick (qa_cons (q_varM 0) (qa_cons (q_share (q_add (q_var 3) (q_lst (qa_cons (q_tup (qa_cons q_str (qa_cons (q_varM 2) (qa_cons (q_varM 2) (qa_cons q_str qa_nil))))) (qa_cons (q_tup (qa_cons q_str (qa_cons (q_varM 2) (qa_cons (q_varM 2) qa_nil)))) (qa_cons (q_tup (qa_cons q_str (qa_cons (q_share (q_lst (qa_cons (q_varM 2) qa_nil))) (qa_cons (q_varM 2) qa_nil)))) (qa_cons (q_tup (qa_cons (q_tup (qa_cons q_str qa_nil)) qa_nil)) qa_nil))))))) qa_nil))))))))))) pure_w_odd
theorem ok_w_bent (T : Txt w K mg) : ∀ n : Nat, FnOk P w K mg base CX0 (n + 3) T.f_w_bent T.fd_w_bent ["_law_draw", "_law_thing", "_law_names"] (spD K (sp_w_bent n))
  | 0 => fn_no no_w_bent
  | n + 1 => by
    have ih := ok_w_bent T n
    have h : FnOk P w K mg base CX0 ((n + 3) + 1) T.f_w_bent T.fd_w_bent ["_law_draw", "_law_thing", "_law_names"] (spD K (sp_w_bent (n + 1))) := fn_d T.F_w_bent sc_w_bent (len_w_bent (n + 1)) (fun cdv A outer s H hr => (qss_cons (qs_if (PW.pt (qw_or (q_not (q_test (q_isi .tuple (by rfl) T.z_isinstance (by rfl) T.z_tuple (by decide +kernel) (q_var 1)))) (qw_or (qt_eqE hr.units (q_var 1) (q_tup qa_nil)) (pw_or1 (qt_eq (q_call (ok_w_next T) (hr.mono (by omega)) (by rfl) T.g_w_next T.F_w_next.kp T.b_w_next (qa_cons (q_varM 0) (qa_cons q_int qa_nil))) q_int hr.units)))))
  (qss_one (qs_ret (q_call (ok_w_odd T) (hr.mono (by omega)) (by rfl) T.g_w_odd T.F_w_odd.kp T.b_w_odd (qa_cons (q_varM 0) (qa_cons (q_varM 2) qa_nil)))))
  qss_nil)
  (qss_cons (qs_set (i := 3) sc_w_bent.nd rfl (by first | exact Or.inl rfl | exact Or.inr rfl) (q_call (ok_w_next T) (hr.mono (by omega)) (by rfl) T.g_w_next T.F_w_next.kp T.b_w_next (qa_cons (q_varM 0) (qa_cons (q_b1 rel_len call_len (by rfl) T.z_len bt_len (q_var 1)) qa_nil))))
  (qss_cons (qs_set (i := 4) sc_w_bent.nd rfl (by first | exact Or.inl rfl | exact Or.inr rfl) (q_call (ok_w_next T) (hr.mono (by omega)) (by rfl) T.g_w_next T.F_w_next.kp T.b_w_next (qa_cons (q_varM 0) (qa_cons q_int qa_nil))))
  (qss_cons (qs_if (qt_eq (q_var 4) q_int hr.units)
  (qss_one (qs_ret (q_add (q_slice (q_var 1) qo_none (qo_some (q_var 3))) (q_slice (q_var 1) (qo_some (q_add (q_var 3) q_int)) qo_none))))
  qss_nil)
  (qss_cons (qs_if (qt_eq (q_var 4) q_int hr.units)
  (qss_one (qs_ret (q_add (q_slice (q_var 1) qo_none (qo_some (q_add (q_var 3) q_int))) (q_slice (q_var 1) (qo_some (q_var 3)) qo_none))))
  qss_nil)
  (qss_cons (qs_if (qt_eq (q_var 4) q_int hr.units)
  (qss_one (qs_ret (q_t1 rel_list call_list_of (by rfl) T.z_list bt_list (q_var 1))))
  qss_nil)
  (qss_one (qs_ret (q_add (q_add (q_slice (q_var 1) qo_none (qo_some (q_var 3))) (q_tup (qa_cons (q_share (q_call ih (hr.mono (by omega)) (by rfl) T.g_w_bent T.F_w_bent.kp T.b_w_bent (qa_cons (q_varM 0) (qa_cons (q_sub1 (q_var 1) (q_var 3)) (qa_cons (q_varM 2) qa_nil))))) qa_nil))) (q_slice (q_var 1) (qo_some (q_add (q_var 3) q_int)) qo_none))))))))))) (pure_w_bent n)
    rw [Nat.add_right_comm]
    exact h
theorem ok_is_name (T : Txt w K mg) : FnOk P w K mg base CX0 1 T.f_is_name T.fd_is_name ["thing"] (spD K sp_is_name) :=
  fn_d T.F_is_name sc_is_name len_is_name (fun cdv A outer s H hr => (qss_cons (qs_if (PW.pt (qw_or (q_not (q_test (q_isi .str (by rfl) T.z_isinstance (by rfl) T.z_str (by decide +kernel) (q_var 0)))) (qw_or (q_not (qt_le_le q_int (q_b1 rel_len call_len (by rfl) T.z_len bt_len (q_var 0)) (q_glob (by rfl) T.g_MOST_LETTERS.1 T.g_MOST_LETTERS.2.1 T.g_MOST_LETTERS.2.2))) (pw_or1 (qt_in (q_var 0) (q_glob (by rfl) T.g_KEPT.1 T.g_KEPT.2.1 T.g_KEPT.2.2))))))
  (qss_one (qs_ret q_bl))
  qss_nil)
  (qss_one (qs_ret (q_b1 rel_all (cr_all rfl) (by rfl) T.z_all bt_all (q_lc (own := [("sign", 1)]) rfl sc_is_name.nd (qi_any (q_varM 0)) (blkOk_by (own := [("sign", 1)]) (N := N_is_name) (sc := defScope s_is_name) (by decide +kernel)) (fun _ _ _ _ _ => (qg_name (i := 1) (vs := [1]) (by decide) sc_is_name.nd rfl (by first | exact Or.inl rfl | exact Or.inr rfl))) (fun _ _ _ _ _ => qts_nil) (fun _ _ _ _ _ => (q_in (q_var 1) (q_glob (by rfl) T.g_LETTERS.1 T.g_LETTERS.2.1 T.g_LETTERS.2.2))))))))) pure_is_name
theorem ok_is_single (T : Txt w K mg) : FnOk P w K mg base CX0 2 T.f_is_single T.fd_is_single ["sign", "thing"] (spD K sp_is_single) :=
  fn_d T.F_is_single sc_is_single len_is_single (fun cdv A outer s H hr => (qss_cons (qs_if (qt_eq (q_var 0) q_str hr.units)
  (qss_one (qs_ret (q_call (ok_is_name T) (hr.mono (by decide)) (by rfl) T.g_is_name T.F_is_name.kp T.b_is_name (qa_cons (q_varM 1) qa_nil))))
  qss_nil)
  (qss_one (qs_ret (q_andV (q_isi .int (by rfl) T.z_isinstance (by rfl) T.z_int (by decide +kernel) (q_var 1)) (q_one (q_eq hr.units (q_isi .bool (by rfl) T.z_isinstance (by rfl) T.z_bool (by decide +kernel) (q_var 1)) (q_eq hr.units (q_var 0) q_str)))))))) pure_is_single
theorem ok_left_behind (T : Txt w K mg) : ∀ n : Nat, FnOk P w K mg base CX0 (n + 2) T.f_left_behind T.fd_left_behind ["thing", "left", "levels"] (spD K (sp_left_behind n))
  | 0 => fn_no no_left_behind
  | n + 1 => by
    have ih := ok_left_behind T n
    have h : FnOk P w K mg base CX0 ((n + 2) + 1) T.f_left_behind T.fd_left_behind ["thing", "left", "levels"] (spD K (sp_left_behind (n + 1))) := fn_d T.F_left_behind sc_left_behind (len_left_behind (n + 1)) (fun cdv A outer s H hr => (qss_cons (qs_if (PW.pt (qw_or (qt_lt (q_var 1) q_int) (qw_or (qt_lt (q_var 2) q_int) (qw_or (q_not (q_test (q_isi .tuple (by rfl) T.z_isinstance (by rfl) T.z_tuple (by decide +kernel) (q_var 0)))) (qw_or (qt_eqE hr.units (q_var 0) (q_tup qa_nil)) (pw_or1 (q_not (q_test (q_isi .str (by rfl) T.z_isinstance (by rfl) T.z_str (by decide +kernel) (q_sub1 (q_var 0) q_int))))))))))
  (qss_one (qs_ret (q_neg q_int)))
  qss_nil)
  (qss_cons (qs_set (i := 3) sc_left_behind.nd rfl (by first | exact Or.inl rfl | exact Or.inr rfl) (q_kget T.k_SIGNS (by rfl) T.g_SIGNS (q_sub1 (q_var 0) q_int) q_non m2_of))
  (qss_cons (qs_if (PW.pt (qw_or (qt_is (q_var 3) q_non) (pw_or1 (qt_ne (q_b1 rel_len call_len (by rfl) T.z_len bt_len (q_var 0)) (q_add (q_b1 rel_len call_len (by rfl) T.z_len bt_len (q_var 3)) q_int) hr.units))))
  (qss_one (qs_ret (q_neg q_int)))
  qss_nil)
  (qss_cons (qs_set (i := 1) sc_left_behind.nd rfl (by first | exact Or.inl rfl | exact Or.inr rfl) (q_sub (q_var 1) q_int))
  (qss_cons (qs_for (vs := [4, 5]) PassesOwn.never rfl (qi_zip (by rfl) T.z_zip (qa_cons (q_varM 3) (qa_cons (q_slice (q_var 0) (qo_some q_int) qo_none) qa_nil))) (qg_t2 (vs := [4, 5]) rfl (by decide) (by decide) (pg_name (i := 4) sc_left_behind.nd rfl (by first | exact Or.inl rfl | exact Or.inr rfl)) (pg_name (i := 5) sc_left_behind.nd rfl (by first | exact Or.inl rfl | exact Or.inr rfl)))
  (qss_cons (qs_if (qt_eq (q_var 4) q_str hr.units)
  (qss_one (qs_set (i := 1) sc_left_behind.nd rfl (by first | exact Or.inl rfl | exact Or.inr rfl) (q_call ih (hr.mono (by omega)) (by rfl) T.g_left_behind T.F_left_behind.kp T.b_left_behind (qa_cons (q_varM 5) (qa_cons (q_varM 1) (qa_cons (q_sub (q_var 2) q_int) qa_nil))))))
  (qss_one (qs_if (q_not (q_test (q_call (ok_is_single T) (hr.mono (by omega)) (by rfl) T.g_is_single T.F_is_single.kp T.b_is_single (qa_cons (q_varM 4) (qa_cons (q_varM 5) qa_nil)))))
  (qss_one (qs_set (i := 1) sc_left_behind.nd rfl (by first | exact Or.inl rfl | exact Or.inr rfl) (q_neg q_int)))
  qss_nil)))
  (qss_one (qs_if (qt_lt (q_var 1) q_int)
  (qss_one (qs_ret (q_neg q_int)))
  qss_nil))))
  (qss_cons (qs_if (PW.pt (qw_and (qt_eq (q_sub1 (q_var 0) q_int) q_str hr.units) (pw_and1 (qt_eq (q_sub1 (q_var 0) q_int) (q_sub1 (q_var 0) q_int) hr.units))))
  (qss_one (qs_ret (q_neg q_int)))
  qss_nil)
  (qss_one (qs_retV 1))))))))) (pure_left_behind n)
    rw [Nat.add_right_comm]
    exact h
theorem ok_is_term (T : Txt w K mg) : FnOk P w K mg base CX0 45 T.f_is_term T.fd_is_term ["thing"] (spD K sp_is_term) :=
  fn_d T.F_is_term sc_is_term len_is_term (fun cdv A outer s H hr => (qss_one (qs_ret (q_ge (q_call (ok_left_behind T 41) (hr.mono (by decide)) (by rfl) T.g_left_behind T.F_left_behind.kp T.b_left_behind (qa_cons (q_varM 0) (qa_cons (q_glob (by rfl) T.g_MOST_PARTS.1 T.g_MOST_PARTS.2.1 T.g_MOST_PARTS.2.2) (qa_cons (q_glob (by rfl) T.g_MOST_DEEP.1 T.g_MOST_DEEP.2.1 T.g_MOST_DEEP.2.2) qa_nil)))) q_int)))) pure_is_term
theorem ok_w_is_name (T : Txt w K mg) : FnOk P w K mg base CX0 2 T.f_w_is_name T.fd_w_is_name ["_law_thing"] (spD K sp_w_is_name) :=
  fn_d T.F_w_is_name sc_w_is_name len_w_is_name (fun cdv A outer s H hr => (qss_cons (qs_if (PW.pt (qw_or (q_not (q_test (q_isi .str (by rfl) T.z_isinstance (by rfl) T.z_str (by decide +kernel) (q_var 0)))) (qw_or (q_not (qt_le_le q_int (q_b1 rel_len call_len (by rfl) T.z_len bt_len (q_var 0)) q_int)) (pw_or1 (qt_in (q_var 0) (q_call0 (ok_w_kept T) (hr.mono (by decide)) (by rfl) T.g_w_kept T.F_w_kept.kp T.b_w_kept))))))
  (qss_one (qs_ret q_bl))
  qss_nil)
  (qss_one (qs_ret (q_eqE hr.units (q_lc (own := [("_law_sign", 1)]) rfl sc_w_is_name.nd (qi_any (q_varM 0)) (blkOk_by (own := [("_law_sign", 1)]) (N := N_w_is_name) (sc := defScope s_w_is_name) (by decide +kernel)) (fun _ _ _ _ _ => (qg_name (i := 1) (vs := [1]) (by decide) sc_w_is_name.nd rfl (by first | exact Or.inl rfl | exact Or.inr rfl))) (fun _ _ _ _ _ => (qts_one (qt_notIn (q_var 1) q_str))) (fun _ _ _ _ _ => (q_varM 1))) (q_lst qa_nil)))))) pure_w_is_name
theorem ok_w_look (T : Txt w K mg) : ∀ n : Nat, FnOk P w K mg base CX0 (n + 2) T.f_w_look T.fd_w_look ["_law_thing", "_law_deep"] (spD K (sp_w_look n))
  | 0 => fn_no no_w_look
  | n + 1 => by
    have ih := ok_w_look T n
    have h : FnOk P w K mg base CX0 ((n + 2) + 1) T.f_w_look T.fd_w_look ["_law_thing", "_law_deep"] (spD K (sp_w_look (n + 1))) := fn_d T.F_w_look sc_w_look (len_w_look (n + 1)) (fun cdv A outer s H hr => (qss_cons (qs_if (PW.pt (qw_or (qt_eq (q_var 1) q_int hr.units) (qw_or (q_not (q_test (q_isi .tuple (by rfl) T.z_isinstance (by rfl) T.z_tuple (by decide +kernel) (q_var 0)))) (qw_or (qt_eqE hr.units (q_var 0) (q_tup qa_nil)) (pw_or1 (q_not (q_test (q_isi .str (by rfl) T.z_isinstance (by rfl) T.z_str (by decide +kernel) (q_sub1 (q_var 0) q_int)))))))))
  (qss_one (qs_ret q_int))
  qss_nil)
  (qss_cons (qs_set (i := 2) sc_w_look.nd rfl (by first | exact Or.inl rfl | exact Or.inr rfl) (q_call (ok_w_signs T) (hr.mono (by omega)) (by rfl) T.g_w_signs T.F_w_signs.kp T.b_w_signs (qa_cons (q_sub1 (q_var 0) q_int) qa_nil)))
  (qss_cons (qs_if (PW.pt (qw_or (qt_is (q_var 2) q_non) (pw_or1 (qt_ne (q_b1 rel_len call_len (by rfl) T.z_len bt_len (q_var 0)) (q_add (q_b1 rel_len call_len (by rfl) T.z_len bt_len (q_var 2)) q_int) hr.units))))
  (qss_one (qs_ret q_int))
  qss_nil)
  (qss_cons (qs_set (i := 3) sc_w_look.nd rfl (by first | exact Or.inl rfl | exact Or.inr rfl) q_int)
  (qss_cons (qs_for (vs := [4, 5]) PassesOwn.never rfl (qi_zip (by rfl) T.z_zip (qa_cons (q_varM 2) (qa_cons (q_slice (q_var 0) (qo_some q_int) qo_none) qa_nil))) (qg_t2 (vs := [4, 5]) rfl (by decide) (by decide) (pg_name (i := 4) sc_w_look.nd rfl (by first | exact Or.inl rfl | exact Or.inr rfl)) (pg_name (i := 5) sc_w_look.nd rfl (by first | exact Or.inl rfl | exact Or.inr rfl)))
  (qss_cons (qs_set (i := 6) sc_w_look.nd rfl (by first | exact Or.inl rfl | exact Or.inr rfl) (q_andV (q_isi .int (by rfl) T.z_isinstance (by rfl) T.z_int (by decide +kernel) (q_var 5)) (q_one (q_eq hr.units (q_isi .bool (by rfl) T.z_isinstance (by rfl) T.z_bool (by decide +kernel) (q_var 5)) (q_eq hr.units (q_var 4) q_str)))))
  (qss_cons (qs_if (qt_eq (q_var 4) q_str hr.units)
  (qss_one (qs_set (i := 6) sc_w_look.nd rfl (by first | exact Or.inl rfl | exact Or.inr rfl) (q_call (ok_w_is_name T) (hr.mono (by omega)) (by rfl) T.g_w_is_name T.F_w_is_name.kp T.b_w_is_name (qa_cons (q_varM 5) qa_nil))))
  qss_nil)
  (qss_one (qs_if (qt_eq (q_var 4) q_str hr.units)
  (qss_one (qs_set (i := 3) sc_w_look.nd rfl (by first | exact Or.inl rfl | exact Or.inr rfl) (q_add (q_var 3) (q_call ih (hr.mono (by omega)) (by rfl) T.g_w_look T.F_w_look.kp T.b_w_look (qa_cons (q_varM 5) (qa_cons (q_sub (q_var 1) q_int) qa_nil))))))
  (qss_one (qs_if (q_not (q_truth (q_var 6)))
  (qss_one (qs_ret q_int))
  qss_nil)))))))
  (qss_one (qs_ret (q_ifExp (PW.pt (qw_and (qt_eq (q_sub1 (q_var 0) q_int) q_str hr.units) (pw_and1 (qt_eq (q_sub1 (q_var 0) q_int) (q_sub1 (q_var 0) q_int) hr.units)))) q_int (q_varM 3)))))))))) (pure_w_look n)
    rw [Nat.add_right_comm]
    exact h
theorem ok_w_right (T : Txt w K mg) : FnOk P w K mg base CX0 46 T.f_w_right T.fd_w_right ["_law_thing"] (spD K sp_w_right) :=
  fn_d T.F_w_right sc_w_right len_w_right (fun cdv A outer s H hr => (qss_cons (qs_set (i := 1) sc_w_right.nd rfl (by first | exact Or.inl rfl | exact Or.inr rfl) (q_call (ok_is_term T) (hr.mono (by decide)) (by rfl) T.g_is_term T.F_is_term.kp T.b_is_term (qa_cons (q_varM 0) qa_nil)))
  (qss_one (qs_ret (q_andV (q_isi .bool (by rfl) T.z_isinstance (by rfl) T.z_bool (by decide +kernel) (q_var 1)) (q_andV (q_eq hr.units (q_var 1) (q_le (q_call (ok_w_look T 41) (hr.mono (by decide)) (by rfl) T.g_w_look T.F_w_look.kp T.b_w_look (qa_cons (q_varM 0) (qa_cons q_int qa_nil))) q_int)) (q_one (q_eq hr.units (q_call (ok_is_term T) (hr.mono (by decide)) (by rfl) T.g_is_term T.F_is_term.kp T.b_is_term (qa_cons (q_varM 0) qa_nil)) (q_var 1))))))))) pure_w_right
theorem ok_law (T : Txt w K mg) : FnOk P w K mg base CX0 215 T.f_law T.fd_law ["_law_script"] (spD K sp_law) :=
  fn_d T.F_law sc_law len_law (fun cdv A outer s H hr => (qss_cons (qs_for (vs := [1]) PassesOwn.never rfl (qi_rng1 (by rfl) T.z_range (qa_cons (q_b2 rel_max (call_max2 rfl) (by rfl) T.z_max bt_max q_int (q_b2 rel_min (call_min2 rfl) (by rfl) T.z_min bt_min (q_b1 rel_len call_len (by rfl) T.z_len bt_len (q_var 0)) q_int)) qa_nil)) (qg_name (i := 1) (vs := [1]) (by decide) sc_law.nd rfl (by first | exact Or.inl rfl | exact Or.inr rfl))
  (qss_cons (qs_set (i := 2) sc_law.nd rfl (by first | exact Or.inl rfl | exact Or.inr rfl) (q_call (ok_w_begun T) (hr.mono (by decide)) (by rfl) T.g_w_begun T.F_w_begun.kp T.b_w_begun (qa_cons (q_varM 0) (qa_cons (q_varM 1) qa_nil))))
  (qss_cons (qs_set (i := 3) sc_law.nd rfl (by first | exact Or.inl rfl | exact Or.inr rfl) (q_call (ok_w_some_names T) (hr.mono (by decide)) (by rfl) T.g_w_some_names T.F_w_some_names.kp T.b_w_some_names (qa_cons (q_varM 2) (qa_cons q_int qa_nil))))
  (qss_cons (qs_fz 3 (qs_set (i := 4) sc_law.nd rfl (by first | exact Or.inl rfl | exact Or.inr rfl) (q_call (ok_w_any_term T 6) (hr.mono (by decide)) (by rfl) T.g_w_any_term T.F_w_any_term.kp T.b_w_any_term (qa_cons (q_varM 2) (qa_cons (q_varM 3) (qa_cons q_int qa_nil))))))
  (qss_cons (qs_fz 3 (qs_set (i := 5) sc_law.nd rfl (by first | exact Or.inl rfl | exact Or.inr rfl) (q_lst (qa_cons (q_varM 4) (qa_cons (q_share (q_call (ok_w_bent T 210) (hr.mono (by decide)) (by rfl) T.g_w_bent T.F_w_bent.kp T.b_w_bent (qa_cons (q_varM 2) (qa_cons (q_varM 4) (qa_cons (q_varM 3) qa_nil))))) (qa_cons (q_share (q_call (ok_w_bent T 210) (hr.mono (by decide)) (by rfl) T.g_w_bent T.F_w_bent.kp T.b_w_bent (qa_cons (q_varM 2) (qa_cons (q_call (ok_w_any_term T 6) (hr.mono (by decide)) (by rfl) T.g_w_any_term T.F_w_any_term.kp T.b_w_any_term (qa_cons (q_varM 2) (qa_cons (q_varM 3) (qa_cons q_int qa_nil)))) (qa_cons (q_varM 3) qa_nil))))) qa_nil))))))
  (qss_cons (qs_fz 3 (qs_set (i := 6) sc_law.nd rfl (by first | exact Or.inl rfl | exact Or.inr rfl) (q_call (ok_w_wide T 201) (hr.mono (by decide)) (by rfl) T.g_w_wide T.F_w_wide.kp T.b_w_wide (qa_cons (q_add q_int (q_call (ok_w_next T) (hr.mono (by decide)) (by rfl) T.g_w_next T.F_w_next.kp T.b_w_next (qa_cons (q_varM 2) (qa_cons q_int qa_nil)))) (qa_cons (q_call (ok_w_leaf T) (hr.mono (by decide)) (by rfl) T.g_w_leaf T.F_w_leaf.kp T.b_w_leaf (qa_cons (q_varM 2) (qa_cons (q_varM 3) qa_nil))) qa_nil)))))
  (qss_cons (qs_fz 3 (qs_set (i := 7) sc_law.nd rfl (by first | exact Or.inl rfl | exact Or.inr rfl) (q_call (ok_w_chain T) (hr.mono (by decide)) (by rfl) T.g_w_chain T.F_w_chain.kp T.b_w_chain (qa_cons (q_add q_int (q_call (ok_w_next T) (hr.mono (by decide)) (by rfl) T.g_w_next T.F_w_next.kp T.b_w_next (qa_cons (q_varM 2) (qa_cons q_int qa_nil)))) (qa_cons (q_call (ok_w_leaf T) (hr.mono (by decide)) (by rfl) T.g_w_leaf T.F_w_leaf.kp T.b_w_leaf (qa_cons (q_varM 2) (qa_cons (q_varM 3) qa_nil))) qa_nil)))))
  (qss_cons (qs_fz 3 (qs_set (i := 5) sc_law.nd rfl (by first | exact Or.inl rfl | exact Or.inr rfl) (q_add (q_var 5) (q_lst (qa_cons (q_varM 6) (qa_cons (q_varM 7) (qa_cons (q_share (q_call (ok_w_bent T 210) (hr.mono (by decide)) (by rfl) T.g_w_bent T.F_w_bent.kp T.b_w_bent (qa_cons (q_varM 2) (qa_cons (q_varM 6) (qa_cons (q_varM 3) qa_nil))))) (qa_cons (q_share (q_call (ok_w_bent T 210) (hr.mono (by decide)) (by rfl) T.g_w_bent T.F_w_bent.kp T.b_w_bent (qa_cons (q_varM 2) (qa_cons (q_varM 7) (qa_cons (q_varM 3) qa_nil))))) (qa_cons (q_call (ok_w_odd T) (hr.mono (by decide)) (by rfl) T.g_w_odd T.F_w_odd.kp T.b_w_odd (qa_cons (q_varM 2) (qa_cons (q_varM 3) qa_nil))) qa_nil)))))))))
  (qss_one (qs_fz 5 (qs_if (q_not (q_test (q_b1 rel_all (cr_all rfl) (by rfl) T.z_all bt_all (q_lc (own := [("_law_thing", 8)]) rfl sc_law.nd (qi_any (q_varM 5)) (blkOk_by (own := [("_law_thing", 8)]) (N := N_law) (sc := defScope s_law) (by decide +kernel)) (fun _ _ _ _ _ => (qg_name (i := 8) (vs := [8]) (by decide) sc_law.nd rfl (by first | exact Or.inl rfl | exact Or.inr rfl))) (fun _ _ _ _ _ => qts_nil) (fun _ _ _ _ _ => (q_call (ok_w_right T) (hr.mono (by decide)) (by rfl) T.g_w_right T.F_w_right.kp T.b_w_right (qa_cons (q_varM 8) qa_nil)))))))
  (qss_one (qs_ret q_bl))
  qss_nil)))))))))))
  (qss_one (qs_ret q_bl)))) pure_law
end
theorem all_mk {l : PySem.W.OpenLaw} {w : World} {K : PySem.W.Frag} {h : Heap} {mg : Str → Option Value} {fa : Addr} (X : K.In h) (G : h.Ns mainGlobals mg) (hfa : mg "law" = some (.ref fa))
    {f0 : Addr} {od0 an0 : Option Addr} {sl0 : Array (Option Value)} {oc0 kV0 dc0 pm0 cd0 ct0 : Value}
    {f1 : Addr} {od1 an1 : Option Addr} {sl1 : Array (Option Value)} {oc1 kV1 dc1 pm1 cd1 ct1 : Value}
    {f2 : Addr} {od2 an2 : Option Addr} {sl2 : Array (Option Value)} {oc2 kV2 dc2 pm2 cd2 ct2 : Value}
    {f3 : Addr} {od3 an3 : Option Addr} {sl3 : Array (Option Value)} {oc3 kV3 dc3 pm3 cd3 ct3 : Value}
    {f4 : Addr} {od4 an4 : Option Addr} {sl4 : Array (Option Value)} {oc4 kV4 dc4 pm4 cd4 ct4 : Value}
    {f5 : Addr} {od5 an5 : Option Addr} {sl5 : Array (Option Value)} {oc5 kV5 dc5 pm5 cd5 ct5 : Value}
    {f6 : Addr} {od6 an6 : Option Addr} {sl6 : Array (Option Value)} {oc6 kV6 dc6 pm6 cd6 ct6 : Value}
    {f7 : Addr} {od7 an7 : Option Addr} {sl7 : Array (Option Value)} {oc7 kV7 dc7 pm7 cd7 ct7 : Value}
    {f8 : Addr} {od8 an8 : Option Addr} {sl8 : Array (Option Value)} {oc8 kV8 dc8 pm8 cd8 ct8 : Value}
    {f9 : Addr} {od9 an9 : Option Addr} {sl9 : Array (Option Value)} {oc9 kV9 dc9 pm9 cd9 ct9 : Value}
    {f10 : Addr} {od10 an10 : Option Addr} {sl10 : Array (Option Value)} {oc10 kV10 dc10 pm10 cd10 ct10 : Value}
    {f11 : Addr} {od11 an11 : Option Addr} {sl11 : Array (Option Value)} {oc11 kV11 dc11 pm11 cd11 ct11 : Value}
    {f12 : Addr} {od12 an12 : Option Addr} {sl12 : Array (Option Value)} {oc12 kV12 dc12 pm12 cd12 ct12 : Value}
    {f13 : Addr} {od13 an13 : Option Addr} {sl13 : Array (Option Value)} {oc13 kV13 dc13 pm13 cd13 ct13 : Value}
    {f14 : Addr} {od14 an14 : Option Addr} {sl14 : Array (Option Value)} {oc14 kV14 dc14 pm14 cd14 ct14 : Value}
    {f15 : Addr} {od15 an15 : Option Addr} {sl15 : Array (Option Value)} {oc15 kV15 dc15 pm15 cd15 ct15 : Value}
    {f16 : Addr} {od16 an16 : Option Addr} {sl16 : Array (Option Value)} {oc16 kV16 dc16 pm16 cd16 ct16 : Value}
    {f17 : Addr} {od17 an17 : Option Addr} {sl17 : Array (Option Value)} {oc17 kV17 dc17 pm17 cd17 ct17 : Value}
    {f18 : Addr} {od18 an18 : Option Addr} {sl18 : Array (Option Value)} {oc18 kV18 dc18 pm18 cd18 ct18 : Value}
    {f19 : Addr} {od19 an19 : Option Addr} {sl19 : Array (Option Value)} {oc19 kV19 dc19 pm19 cd19 ct19 : Value}
    {f20 : Addr} {od20 an20 : Option Addr} {sl20 : Array (Option Value)} {oc20 kV20 dc20 pm20 cd20 ct20 : Value}
    {f21 : Addr} {od21 an21 : Option Addr} {sl21 : Array (Option Value)} {oc21 kV21 dc21 pm21 cd21 ct21 : Value}
    {f22 : Addr} {od22 an22 : Option Addr} {sl22 : Array (Option Value)} {oc22 kV22 dc22 pm22 cd22 ct22 : Value}
    {aC_KEPT : Addr} {oC_KEPT : Obj}
    {uC_LETTERS : Value}
    {uC_MOST_DEEP : Value}
    {uC_MOST_LETTERS : Value}
    {uC_MOST_PARTS : Value}
    {aC_SIGNS : Addr} {esC_SIGNS : Array DictEntry} {nC_SIGNS : Nat}
    (a0 : PySem.W.nsIn K mainGlobals "_law_cell_at" = some (some (.ref f0))) (l0 : K.lookup f0 = some ⟨oc0, od0, .func (PySem.W.fnOf "_law_cell_at" "_law_cell_at" (defArgs s_w_cell_at) (defBody s_w_cell_at) (defScope s_w_cell_at) .none kV0 dc0 pm0 an0 cd0 ct0), sl0⟩) (c0 : PySem.W.codeIn K cd0 "_law_cell_at" = true) (k0 : PySem.W.keepIn K (.ref f0) = true)
    (a1 : PySem.W.nsIn K mainGlobals "_law_begun" = some (some (.ref f1))) (l1 : K.lookup f1 = some ⟨oc1, od1, .func (PySem.W.fnOf "_law_begun" "_law_begun" (defArgs s_w_begun) (defBody s_w_begun) (defScope s_w_begun) .none kV1 dc1 pm1 an1 cd1 ct1), sl1⟩) (c1 : PySem.W.codeIn K cd1 "_law_begun" = true) (k1 : PySem.W.keepIn K (.ref f1) = true)
    (a2 : PySem.W.nsIn K mainGlobals "_law_next" = some (some (.ref f2))) (l2 : K.lookup f2 = some ⟨oc2, od2, .func (PySem.W.fnOf "_law_next" "_law_next" (defArgs s_w_next) (defBody s_w_next) (defScope s_w_next) .none kV2 dc2 pm2 an2 cd2 ct2), sl2⟩) (c2 : PySem.W.codeIn K cd2 "_law_next" = true) (k2 : PySem.W.keepIn K (.ref f2) = true)
    (a3 : PySem.W.nsIn K mainGlobals "_law_kept" = some (some (.ref f3))) (l3 : K.lookup f3 = some ⟨oc3, od3, .func (PySem.W.fnOf "_law_kept" "_law_kept" (defArgs s_w_kept) (defBody s_w_kept) (defScope s_w_kept) .none kV3 dc3 pm3 an3 cd3 ct3), sl3⟩) (c3 : PySem.W.codeIn K cd3 "_law_kept" = true) (k3 : PySem.W.keepIn K (.ref f3) = true)
    (a4 : PySem.W.nsIn K mainGlobals "_law_any_name" = some (some (.ref f4))) (l4 : K.lookup f4 = some ⟨oc4, od4, .func (PySem.W.fnOf "_law_any_name" "_law_any_name" (defArgs s_w_any_name) (defBody s_w_any_name) (defScope s_w_any_name) .none kV4 dc4 pm4 an4 cd4 ct4), sl4⟩) (c4 : PySem.W.codeIn K cd4 "_law_any_name" = true) (k4 : PySem.W.keepIn K (.ref f4) = true)
    (a5 : PySem.W.nsIn K mainGlobals "_law_some_names" = some (some (.ref f5))) (l5 : K.lookup f5 = some ⟨oc5, od5, .func (PySem.W.fnOf "_law_some_names" "_law_some_names" (defArgs s_w_some_names) (defBody s_w_some_names) (defScope s_w_some_names) .none kV5 dc5 pm5 an5 cd5 ct5), sl5⟩) (c5 : PySem.W.codeIn K cd5 "_law_some_names" = true) (k5 : PySem.W.keepIn K (.ref f5) = true)
    (a6 : PySem.W.nsIn K mainGlobals "_law_pick" = some (some (.ref f6))) (l6 : K.lookup f6 = some ⟨oc6, od6, .func (PySem.W.fnOf "_law_pick" "_law_pick" (defArgs s_w_pick) (defBody s_w_pick) (defScope s_w_pick) .none kV6 dc6 pm6 an6 cd6 ct6), sl6⟩) (c6 : PySem.W.codeIn K cd6 "_law_pick" = true) (k6 : PySem.W.keepIn K (.ref f6) = true)
    (a7 : PySem.W.nsIn K mainGlobals "_law_any_number" = some (some (.ref f7))) (l7 : K.lookup f7 = some ⟨oc7, od7, .func (PySem.W.fnOf "_law_any_number" "_law_any_number" (defArgs s_w_any_number) (defBody s_w_any_number) (defScope s_w_any_number) .none kV7 dc7 pm7 an7 cd7 ct7), sl7⟩) (c7 : PySem.W.codeIn K cd7 "_law_any_number" = true) (k7 : PySem.W.keepIn K (.ref f7) = true)
    (a8 : PySem.W.nsIn K mainGlobals "_law_leaf" = some (some (.ref f8))) (l8 : K.lookup f8 = some ⟨oc8, od8, .func (PySem.W.fnOf "_law_leaf" "_law_leaf" (defArgs s_w_leaf) (defBody s_w_leaf) (defScope s_w_leaf) .none kV8 dc8 pm8 an8 cd8 ct8), sl8⟩) (c8 : PySem.W.codeIn K cd8 "_law_leaf" = true) (k8 : PySem.W.keepIn K (.ref f8) = true)
    (a9 : PySem.W.nsIn K mainGlobals "_law_signs" = some (some (.ref f9))) (l9 : K.lookup f9 = some ⟨oc9, od9, .func (PySem.W.fnOf "_law_signs" "_law_signs" (defArgs s_w_signs) (defBody s_w_signs) (defScope s_w_signs) .none kV9 dc9 pm9 an9 cd9 ct9), sl9⟩) (c9 : PySem.W.codeIn K cd9 "_law_signs" = true) (k9 : PySem.W.keepIn K (.ref f9) = true)
    (a10 : PySem.W.nsIn K mainGlobals "_law_any_term" = some (some (.ref f10))) (l10 : K.lookup f10 = some ⟨oc10, od10, .func (PySem.W.fnOf "_law_any_term" "_law_any_term" (defArgs s_w_any_term) (defBody s_w_any_term) (defScope s_w_any_term) .none kV10 dc10 pm10 an10 cd10 ct10), sl10⟩) (c10 : PySem.W.codeIn K cd10 "_law_any_term" = true) (k10 : PySem.W.keepIn K (.ref f10) = true)
    (a11 : PySem.W.nsIn K mainGlobals "_law_wide" = some (some (.ref f11))) (l11 : K.lookup f11 = some ⟨oc11, od11, .func (PySem.W.fnOf "_law_wide" "_law_wide" (defArgs s_w_wide) (defBody s_w_wide) (defScope s_w_wide) .none kV11 dc11 pm11 an11 cd11 ct11), sl11⟩) (c11 : PySem.W.codeIn K cd11 "_law_wide" = true) (k11 : PySem.W.keepIn K (.ref f11) = true)
    (a12 : PySem.W.nsIn K mainGlobals "_law_chain" = some (some (.ref f12))) (l12 : K.lookup f12 = some ⟨oc12, od12, .func (PySem.W.fnOf "_law_chain" "_law_chain" (defArgs s_w_chain) (defBody s_w_chain) (defScope s_w_chain) .none kV12 dc12 pm12 an12 cd12 ct12), sl12⟩) (c12 : PySem.W.codeIn K cd12 "_law_chain" = true) (k12 : PySem.W.keepIn K (.ref f12) = true)
    (a13 : PySem.W.nsIn K mainGlobals "_law_odd" = some (some (.ref f13))) (l13 : K.lookup f13 = some ⟨oc13, od13, .func (PySem.W.fnOf "_law_odd" "_law_odd" (defArgs s_w_odd) (defBody s_w_odd) (defScope s_w_odd) .none kV13 dc13 pm13 an13 cd13 ct13), sl13⟩) (c13 : PySem.W.codeIn K cd13 "_law_odd" = true) (k13 : PySem.W.keepIn K (.ref f13) = true)
    (a14 : PySem.W.nsIn K mainGlobals "_law_bent" = some (some (.ref f14))) (l14 : K.lookup f14 = some ⟨oc14, od14, .func (PySem.W.fnOf "_law_bent" "_law_bent" (defArgs s_w_bent) (defBody s_w_bent) (defScope s_w_bent) .none kV14 dc14 pm14 an14 cd14 ct14), sl14⟩) (c14 : PySem.W.codeIn K cd14 "_law_bent" = true) (k14 : PySem.W.keepIn K (.ref f14) = true)
    (a15 : PySem.W.nsIn K mainGlobals "is_name" = some (some (.ref f15))) (l15 : K.lookup f15 = some ⟨oc15, od15, .func (PySem.W.fnOf "is_name" "is_name" (defArgs s_is_name) (defBody s_is_name) (defScope s_is_name) .none kV15 dc15 pm15 an15 cd15 ct15), sl15⟩) (c15 : PySem.W.codeIn K cd15 "is_name" = true) (k15 : PySem.W.keepIn K (.ref f15) = true)
    (a16 : PySem.W.nsIn K mainGlobals "is_single" = some (some (.ref f16))) (l16 : K.lookup f16 = some ⟨oc16, od16, .func (PySem.W.fnOf "is_single" "is_single" (defArgs s_is_single) (defBody s_is_single) (defScope s_is_single) .none kV16 dc16 pm16 an16 cd16 ct16), sl16⟩) (c16 : PySem.W.codeIn K cd16 "is_single" = true) (k16 : PySem.W.keepIn K (.ref f16) = true)
    (a17 : PySem.W.nsIn K mainGlobals "left_behind" = some (some (.ref f17))) (l17 : K.lookup f17 = some ⟨oc17, od17, .func (PySem.W.fnOf "left_behind" "left_behind" (defArgs s_left_behind) (defBody s_left_behind) (defScope s_left_behind) .none kV17 dc17 pm17 an17 cd17 ct17), sl17⟩) (c17 : PySem.W.codeIn K cd17 "left_behind" = true) (k17 : PySem.W.keepIn K (.ref f17) = true)
    (a18 : PySem.W.nsIn K mainGlobals "is_term" = some (some (.ref f18))) (l18 : K.lookup f18 = some ⟨oc18, od18, .func (PySem.W.fnOf "is_term" "is_term" (defArgs s_is_term) (defBody s_is_term) (defScope s_is_term) .none kV18 dc18 pm18 an18 cd18 ct18), sl18⟩) (c18 : PySem.W.codeIn K cd18 "is_term" = true) (k18 : PySem.W.keepIn K (.ref f18) = true)
    (a19 : PySem.W.nsIn K mainGlobals "_law_is_name" = some (some (.ref f19))) (l19 : K.lookup f19 = some ⟨oc19, od19, .func (PySem.W.fnOf "_law_is_name" "_law_is_name" (defArgs s_w_is_name) (defBody s_w_is_name) (defScope s_w_is_name) .none kV19 dc19 pm19 an19 cd19 ct19), sl19⟩) (c19 : PySem.W.codeIn K cd19 "_law_is_name" = true) (k19 : PySem.W.keepIn K (.ref f19) = true)
    (a20 : PySem.W.nsIn K mainGlobals "_law_look" = some (some (.ref f20))) (l20 : K.lookup f20 = some ⟨oc20, od20, .func (PySem.W.fnOf "_law_look" "_law_look" (defArgs s_w_look) (defBody s_w_look) (defScope s_w_look) .none kV20 dc20 pm20 an20 cd20 ct20), sl20⟩) (c20 : PySem.W.codeIn K cd20 "_law_look" = true) (k20 : PySem.W.keepIn K (.ref f20) = true)
    (a21 : PySem.W.nsIn K mainGlobals "_law_right" = some (some (.ref f21))) (l21 : K.lookup f21 = some ⟨oc21, od21, .func (PySem.W.fnOf "_law_right" "_law_right" (defArgs s_w_right) (defBody s_w_right) (defScope s_w_right) .none kV21 dc21 pm21 an21 cd21 ct21), sl21⟩) (c21 : PySem.W.codeIn K cd21 "_law_right" = true) (k21 : PySem.W.keepIn K (.ref f21) = true)
    (a22 : PySem.W.nsIn K mainGlobals "law" = some (some (.ref f22))) (l22 : K.lookup f22 = some ⟨oc22, od22, .func (PySem.W.fnOf "law" "law" (defArgs s_law) (defBody s_law) (defScope s_law) .none kV22 dc22 pm22 an22 cd22 ct22), sl22⟩) (c22 : PySem.W.codeIn K cd22 "law" = true) (k22 : PySem.W.keepIn K (.ref f22) = true)
    (z_abs : PySem.W.nsIn K mainGlobals "abs" = some none)
    (z_all : PySem.W.nsIn K mainGlobals "all" = some none)
    (z_bool : PySem.W.nsIn K mainGlobals "bool" = some none)
    (z_int : PySem.W.nsIn K mainGlobals "int" = some none)
    (z_isinstance : PySem.W.nsIn K mainGlobals "isinstance" = some none)
    (z_len : PySem.W.nsIn K mainGlobals "len" = some none)
    (z_list : PySem.W.nsIn K mainGlobals "list" = some none)
    (z_max : PySem.W.nsIn K mainGlobals "max" = some none)
    (z_min : PySem.W.nsIn K mainGlobals "min" = some none)
    (z_range : PySem.W.nsIn K mainGlobals "range" = some none)
    (z_str : PySem.W.nsIn K mainGlobals "str" = some none)
    (z_tuple : PySem.W.nsIn K mainGlobals "tuple" = some none)
    (z_zip : PySem.W.nsIn K mainGlobals "zip" = some none)
    (q_KEPT : PySem.W.nsIn K mainGlobals "KEPT" = some (some (.ref aC_KEPT))) (r_KEPT : K.lookup aC_KEPT = some oC_KEPT) (t_KEPT : cstTup oC_KEPT (["number", "truth", "name", "gap", "let", "fun", "call", "pair", "first", "second", "none", "add", "fold", "again", "if", "plus", "minus", "less", "same", "yes", "no", "num", "list", "any"]) = true)
    (q_LETTERS : PySem.W.nsIn K mainGlobals "LETTERS" = some (some uC_LETTERS)) (t_LETTERS : cstV uC_LETTERS g_LETTERS = true)
    (q_MOST_DEEP : PySem.W.nsIn K mainGlobals "MOST_DEEP" = some (some uC_MOST_DEEP)) (t_MOST_DEEP : cstV uC_MOST_DEEP g_MOST_DEEP = true)
    (q_MOST_LETTERS : PySem.W.nsIn K mainGlobals "MOST_LETTERS" = some (some uC_MOST_LETTERS)) (t_MOST_LETTERS : cstV uC_MOST_LETTERS g_MOST_LETTERS = true)
    (q_MOST_PARTS : PySem.W.nsIn K mainGlobals "MOST_PARTS" = some (some uC_MOST_PARTS)) (t_MOST_PARTS : cstV uC_MOST_PARTS g_MOST_PARTS = true)
    (q_SIGNS : PySem.W.nsIn K mainGlobals "SIGNS" = some (some (.ref aC_SIGNS))) (r_SIGNS : K.lookup aC_SIGNS = some ⟨.type "dict", none, .dict esC_SIGNS nC_SIGNS, #[]⟩) (h_SIGNS : PySem.W.KeysLit w.params esC_SIGNS.toList) (t_SIGNS : entsOk esC_SIGNS.toList tab_SIGNS = true) (y_SIGNS : (aC_SIGNS == sysModules) = false) :
    ∃ fd : FuncData, (∀ (s : Shared) (v : Value), BindsTo s fd ⟨[v], []⟩ [("_law_script", v)]) ∧ ∀ base : Heap, K.In base → base.Ns mainGlobals mg → FnOk l.prog w K mg base CX0 215 fa fd ["_law_script"] (spD K sp_law) := by
  have e := hfa.symm.trans (PySem.W.mg_of X G a22)
  cases e
  have F0 := fun_mk (st := s_w_cell_at) l0 c0 k0
  have b0 := F0.binds (ps := ["_law_script", "_law_k"]) fun _ _ _ _ _ _ us hl => match us, hl with | [_, _], _ => rfl
  have F1 := fun_mk (st := s_w_begun) l1 c1 k1
  have b1 := F1.binds (ps := ["_law_script", "_law_k"]) fun _ _ _ _ _ _ us hl => match us, hl with | [_, _], _ => rfl
  have F2 := fun_mk (st := s_w_next) l2 c2 k2
  have b2 := F2.binds (ps := ["_law_draw", "_law_many"]) fun _ _ _ _ _ _ us hl => match us, hl with | [_, _], _ => rfl
  have F3 := fun_mk (st := s_w_kept) l3 c3 k3
  have b3 := F3.binds (ps := []) fun _ _ _ _ _ _ us hl => match us, hl with | [], _ => rfl
  have F4 := fun_mk (st := s_w_any_name) l4 c4 k4
  have b4 := F4.binds (ps := ["_law_draw"]) fun _ _ _ _ _ _ us hl => match us, hl with | [_], _ => rfl
  have F5 := fun_mk (st := s_w_some_names) l5 c5 k5
  have b5 := F5.binds (ps := ["_law_draw", "_law_many"]) fun _ _ _ _ _ _ us hl => match us, hl with | [_, _], _ => rfl
  have F6 := fun_mk (st := s_w_pick) l6 c6 k6
  have b6 := F6.binds (ps := ["_law_draw", "_law_some"]) fun _ _ _ _ _ _ us hl => match us, hl with | [_, _], _ => rfl
  have F7 := fun_mk (st := s_w_any_number) l7 c7 k7
  have b7 := F7.binds (ps := ["_law_draw"]) fun _ _ _ _ _ _ us hl => match us, hl with | [_], _ => rfl
  have F8 := fun_mk (st := s_w_leaf) l8 c8 k8
  have b8 := F8.binds (ps := ["_law_draw", "_law_names"]) fun _ _ _ _ _ _ us hl => match us, hl with | [_, _], _ => rfl
  have F9 := fun_mk (st := s_w_signs) l9 c9 k9
  have b9 := F9.binds (ps := ["_law_word"]) fun _ _ _ _ _ _ us hl => match us, hl with | [_], _ => rfl
  have F10 := fun_mk (st := s_w_any_term) l10 c10 k10
  have b10 := F10.binds (ps := ["_law_draw", "_law_names", "_law_deep"]) fun _ _ _ _ _ _ us hl => match us, hl with | [_, _, _], _ => rfl
  have F11 := fun_mk (st := s_w_wide) l11 c11 k11
  have b11 := F11.binds (ps := ["_law_many", "_law_leaf_here"]) fun _ _ _ _ _ _ us hl => match us, hl with | [_, _], _ => rfl
  have F12 := fun_mk (st := s_w_chain) l12 c12 k12
  have b12 := F12.binds (ps := ["_law_deep", "_law_leaf_here"]) fun _ _ _ _ _ _ us hl => match us, hl with | [_, _], _ => rfl
  have F13 := fun_mk (st := s_w_odd) l13 c13 k13
  have b13 := F13.binds (ps := ["_law_draw", "_law_names"]) fun _ _ _ _ _ _ us hl => match us, hl with | [_, _], _ => rfl
  have F14 := fun_mk (st := s_w_bent) l14 c14 k14
  have b14 := F14.binds (ps := ["_law_draw", "_law_thing", "_law_names"]) fun _ _ _ _ _ _ us hl => match us, hl with | [_, _, _], _ => rfl
  have F15 := fun_mk (st := s_is_name) l15 c15 k15
  have b15 := F15.binds (ps := ["thing"]) fun _ _ _ _ _ _ us hl => match us, hl with | [_], _ => rfl
  have F16 := fun_mk (st := s_is_single) l16 c16 k16
  have b16 := F16.binds (ps := ["sign", "thing"]) fun _ _ _ _ _ _ us hl => match us, hl with | [_, _], _ => rfl
  have F17 := fun_mk (st := s_left_behind) l17 c17 k17
  have b17 := F17.binds (ps := ["thing", "left", "levels"]) fun _ _ _ _ _ _ us hl => match us, hl with | [_, _, _], _ => rfl
  have F18 := fun_mk (st := s_is_term) l18 c18 k18
  have b18 := F18.binds (ps := ["thing"]) fun _ _ _ _ _ _ us hl => match us, hl with | [_], _ => rfl
  have F19 := fun_mk (st := s_w_is_name) l19 c19 k19
  have b19 := F19.binds (ps := ["_law_thing"]) fun _ _ _ _ _ _ us hl => match us, hl with | [_], _ => rfl
  have F20 := fun_mk (st := s_w_look) l20 c20 k20
  have b20 := F20.binds (ps := ["_law_thing", "_law_deep"]) fun _ _ _ _ _ _ us hl => match us, hl with | [_, _], _ => rfl
  have F21 := fun_mk (st := s_w_right) l21 c21 k21
  have b21 := F21.binds (ps := ["_law_thing"]) fun _ _ _ _ _ _ us hl => match us, hl with | [_], _ => rfl
  have F22 := fun_mk (st := s_law) l22 c22 k22
  have b22 := F22.binds (ps := ["_law_script"]) fun _ _ _ _ _ _ us hl => match us, hl with | [_], _ => rfl
  let T : Txt w K mg := { f_w_cell_at := _, fd_w_cell_at := _, F_w_cell_at := F0, g_w_cell_at := PySem.W.mg_of X G a0, b_w_cell_at := b0, f_w_begun := _, fd_w_begun := _, F_w_begun := F1, g_w_begun := PySem.W.mg_of X G a1, b_w_begun := b1, f_w_next := _, fd_w_next := _, F_w_next := F2, g_w_next := PySem.W.mg_of X G a2, b_w_next := b2, f_w_kept := _, fd_w_kept := _, F_w_kept := F3, g_w_kept := PySem.W.mg_of X G a3, b_w_kept := b3, f_w_any_name := _, fd_w_any_name := _, F_w_any_name := F4, g_w_any_name := PySem.W.mg_of X G a4, b_w_any_name := b4, f_w_some_names := _, fd_w_some_names := _, F_w_some_names := F5, g_w_some_names := PySem.W.mg_of X G a5, b_w_some_names := b5, f_w_pick := _, fd_w_pick := _, F_w_pick := F6, g_w_pick := PySem.W.mg_of X G a6, b_w_pick := b6, f_w_any_number := _, fd_w_any_number := _, F_w_any_number := F7, g_w_any_number := PySem.W.mg_of X G a7, b_w_any_number := b7, f_w_leaf := _, fd_w_leaf := _, F_w_leaf := F8, g_w_leaf := PySem.W.mg_of X G a8, b_w_leaf := b8, f_w_signs := _, fd_w_signs := _, F_w_signs := F9, g_w_signs := PySem.W.mg_of X G a9, b_w_signs := b9, f_w_any_term := _, fd_w_any_term := _, F_w_any_term := F10, g_w_any_term := PySem.W.mg_of X G a10, b_w_any_term := b10, f_w_wide := _, fd_w_wide := _, F_w_wide := F11, g_w_wide := PySem.W.mg_of X G a11, b_w_wide := b11, f_w_chain := _, fd_w_chain := _, F_w_chain := F12, g_w_chain := PySem.W.mg_of X G a12, b_w_chain := b12, f_w_odd := _, fd_w_odd := _, F_w_odd := F13, g_w_odd := PySem.W.mg_of X G a13, b_w_odd := b13, f_w_bent := _, fd_w_bent := _, F_w_bent := F14, g_w_bent := PySem.W.mg_of X G a14, b_w_bent := b14, f_is_name := _, fd_is_name := _, F_is_name := F15, g_is_name := PySem.W.mg_of X G a15, b_is_name := b15, f_is_single := _, fd_is_single := _, F_is_single := F16, g_is_single := PySem.W.mg_of X G a16, b_is_single := b16, f_left_behind := _, fd_left_behind := _, F_left_behind := F17, g_left_behind := PySem.W.mg_of X G a17, b_left_behind := b17, f_is_term := _, fd_is_term := _, F_is_term := F18, g_is_term := PySem.W.mg_of X G a18, b_is_term := b18, f_w_is_name := _, fd_w_is_name := _, F_w_is_name := F19, g_w_is_name := PySem.W.mg_of X G a19, b_w_is_name := b19, f_w_look := _, fd_w_look := _, F_w_look := F20, g_w_look := PySem.W.mg_of X G a20, b_w_look := b20, f_w_right := _, fd_w_right := _, F_w_right := F21, g_w_right := PySem.W.mg_of X G a21, b_w_right := b21, f_law := _, fd_law := _, F_law := F22, g_law := PySem.W.mg_of X G a22, b_law := b22, z_abs := PySem.W.mg_none_of X G z_abs, z_all := PySem.W.mg_none_of X G z_all, z_bool := PySem.W.mg_none_of X G z_bool, z_int := PySem.W.mg_none_of X G z_int, z_isinstance := PySem.W.mg_none_of X G z_isinstance, z_len := PySem.W.mg_none_of X G z_len, z_list := PySem.W.mg_none_of X G z_list, z_max := PySem.W.mg_none_of X G z_max, z_min := PySem.W.mg_none_of X G z_min, z_range := PySem.W.mg_none_of X G z_range, z_str := PySem.W.mg_none_of X G z_str, z_tuple := PySem.W.mg_none_of X G z_tuple, z_zip := PySem.W.mg_none_of X G z_zip, u_KEPT := _, v_KEPT := .ref aC_KEPT, g_KEPT := ⟨PySem.W.mg_of X G q_KEPT, rfl, fun B => cstTup_rep r_KEPT t_KEPT⟩, u_LETTERS := _, v_LETTERS := dV g_LETTERS, g_LETTERS := ⟨PySem.W.mg_of X G q_LETTERS, (cstV_rep (K := K) t_LETTERS).1, (cstV_rep (K := K) t_LETTERS).2⟩, u_MOST_DEEP := _, v_MOST_DEEP := dV g_MOST_DEEP, g_MOST_DEEP := ⟨PySem.W.mg_of X G q_MOST_DEEP, (cstV_rep (K := K) t_MOST_DEEP).1, (cstV_rep (K := K) t_MOST_DEEP).2⟩, u_MOST_LETTERS := _, v_MOST_LETTERS := dV g_MOST_LETTERS, g_MOST_LETTERS := ⟨PySem.W.mg_of X G q_MOST_LETTERS, (cstV_rep (K := K) t_MOST_LETTERS).1, (cstV_rep (K := K) t_MOST_LETTERS).2⟩, u_MOST_PARTS := _, v_MOST_PARTS := dV g_MOST_PARTS, g_MOST_PARTS := ⟨PySem.W.mg_of X G q_MOST_PARTS, (cstV_rep (K := K) t_MOST_PARTS).1, (cstV_rep (K := K) t_MOST_PARTS).2⟩, a_SIGNS := _, g_SIGNS := PySem.W.mg_of X G q_SIGNS, k_SIGNS := ⟨⟨_, _, r_SIGNS, h_SIGNS, t_SIGNS⟩, y_SIGNS⟩ }
  exact ⟨PySem.W.fnOf "law" "law" (defArgs s_law) (defBody s_law) (defScope s_law) .none kV22 dc22 pm22 an22 cd22 ct22, fun s v => .of_eq rfl, fun base _ _ => ok_law T⟩
end Cl
open PySem PySem.W PyProof.Rows
set_option maxHeartbeats 0 in
theorem PySem.Challenge.cw_gaprun_k02_terms_looked_at_holds : PySem.Challenge.rw_gaprun_k02_terms_looked_at.Holds := by
  w_on; o_law; k_head; (case hw => w_witness2)
  k_fill
  refine L2.walk_of (l := PySem.Challenge.rw_gaprun_k02_terms_looked_at) (n := 63) (k := 215) (x := "_law_script") (CX := fun _ => L2.CX0) (sp := fun w => Dl.spD _ Cl.sp_law) rfl (by decide) rfl ⟨rfl, by decide, by decide⟩ (fun w h Y => PySem.W.kIn_of Y) ?F (fun _ H a ns hl _ hS => Dl.law_in hS (Cl.law_pre hl)) (fun _ _ _ _ _ h => h)
  case F =>
    intro w mg fa h KX G hmg
    refine' Cl.all_mk KX G hmg ?a0 ?l0 ?c0 ?k0 ?a1 ?l1 ?c1 ?k1 ?a2 ?l2 ?c2 ?k2 ?a3 ?l3 ?c3 ?k3 ?a4 ?l4 ?c4 ?k4 ?a5 ?l5 ?c5 ?k5 ?a6 ?l6 ?c6 ?k6 ?a7 ?l7 ?c7 ?k7 ?a8 ?l8 ?c8 ?k8 ?a9 ?l9 ?c9 ?k9 ?a10 ?l10 ?c10 ?k10 ?a11 ?l11 ?c11 ?k11 ?a12 ?l12 ?c12 ?k12 ?a13 ?l13 ?c13 ?k13 ?a14 ?l14 ?c14 ?k14 ?a15 ?l15 ?c15 ?k15 ?a16 ?l16 ?c16 ?k16 ?a17 ?l17 ?c17 ?k17 ?a18 ?l18 ?c18 ?k18 ?a19 ?l19 ?c19 ?k19 ?a20 ?l20 ?c20 ?k20 ?a21 ?l21 ?c21 ?k21 ?a22 ?l22 ?c22 ?k22 ?z_abs ?z_all ?z_bool ?z_int ?z_isinstance ?z_len ?z_list ?z_max ?z_min ?z_range ?z_str ?z_tuple ?z_zip ?q_KEPT ?r_KEPT ?t_KEPT ?q_LETTERS ?t_LETTERS ?q_MOST_DEEP ?t_MOST_DEEP ?q_MOST_LETTERS ?t_MOST_LETTERS ?q_MOST_PARTS ?t_MOST_PARTS ?q_SIGNS ?r_SIGNS ?h_SIGNS ?t_SIGNS ?y_SIGNS
    (case a0 => k_is); (case l0 => k_is); (case c0 => k_is); (case k0 => k_is); (case a1 => k_is); (case l1 => k_is); (case c1 => k_is); (case k1 => k_is); (case a2 => k_is); (case l2 => k_is); (case c2 => k_is); (case k2 => k_is); (case a3 => k_is); (case l3 => k_is); (case c3 => k_is); (case k3 => k_is); (case a4 => k_is); (case l4 => k_is); (case c4 => k_is); (case k4 => k_is); (case a5 => k_is); (case l5 => k_is); (case c5 => k_is); (case k5 => k_is); (case a6 => k_is); (case l6 => k_is); (case c6 => k_is); (case k6 => k_is); (case a7 => k_is); (case l7 => k_is); (case c7 => k_is); (case k7 => k_is); (case a8 => k_is); (case l8 => k_is); (case c8 => k_is); (case k8 => k_is); (case a9 => k_is); (case l9 => k_is); (case c9 => k_is); (case k9 => k_is); (case a10 => k_is); (case l10 => k_is); (case c10 => k_is); (case k10 => k_is); (case a11 => k_is); (case l11 => k_is); (case c11 => k_is); (case k11 => k_is); (case a12 => k_is); (case l12 => k_is); (case c12 => k_is); (case k12 => k_is); (case a13 => k_is); (case l13 => k_is); (case c13 => k_is); (case k13 => k_is); (case a14 => k_is); (case l14 => k_is); (case c14 => k_is); (case k14 => k_is); (case a15 => k_is); (case l15 => k_is); (case c15 => k_is); (case k15 => k_is); (case a16 => k_is); (case l16 => k_is); (case c16 => k_is); (case k16 => k_is); (case a17 => k_is); (case l17 => k_is); (case c17 => k_is); (case k17 => k_is); (case a18 => k_is); (case l18 => k_is); (case c18 => k_is); (case k18 => k_is); (case a19 => k_is); (case l19 => k_is); (case c19 => k_is); (case k19 => k_is); (case a20 => k_is); (case l20 => k_is); (case c20 => k_is); (case k20 => k_is); (case a21 => k_is); (case l21 => k_is); (case c21 => k_is); (case k21 => k_is); (case a22 => k_is); (case l22 => k_is); (case c22 => k_is); (case k22 => k_is); (case z_abs => k_is); (case z_all => k_is); (case z_bool => k_is); (case z_int => k_is); (case z_isinstance => k_is); (case z_len => k_is); (case z_list => k_is); (case z_max => k_is); (case z_min => k_is); (case z_range => k_is); (case z_str => k_is); (case z_tuple => k_is); (case z_zip => k_is); (case q_KEPT => k_is); (case r_KEPT => k_is); (case t_KEPT => decide +kernel); (case q_LETTERS => k_is); (case t_LETTERS => decide +kernel); (case q_MOST_DEEP => k_is); (case t_MOST_DEEP => decide +kernel); (case q_MOST_LETTERS => k_is); (case t_MOST_LETTERS => decide +kernel); (case q_MOST_PARTS => k_is); (case t_MOST_PARTS => decide +kernel); (case q_SIGNS => k_is); (case r_SIGNS => k_is); (case h_SIGNS => k_keys); (case t_SIGNS => rfl); (case y_SIGNS => rfl)
