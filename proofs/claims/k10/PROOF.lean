import PyProof.Rows.All
import Wide.All
import OpenK.AllK
import Wide.FinOn
import HandS.ForMost
import HandS.ForExc
import HandS.IsInst
import HandS.Style
import HandS.Flow
import HandS.Conv
import HandS.Wide
import HandS.TupAny
import KE.GoesMore
import HandS.Small
import HandS.WrittenGet
import PyProof.DictUpdate
import PySem.Challenge.RW_gaprun_k10_terms_written
set_option Elab.async false
set_option linter.all false
set_option maxRecDepth 100000
set_option maxHeartbeats 8000000
/-! Dl1: data in the place of heaps. D data, Rep what bears it, Step what an evaluation may change, L an expression's reading by data. -/
namespace Dl
open PySem PySem.Spec PyProof.Rows L2
/-- Python's data -/
inductive D where
  | non | bl (b : Bool) | int (i : Int) | str (x : Str) | ty (n : String)
  | tup (l : List D) | lst (l : List D) | dic (l : List (Key × D))
  /-- a draw's dict: what it holds is left open -/
  | draw
  /-- a draw's list -/
  | drawl
  /-- a list of ints that is only read (the script) -/
  | scr (ns : List Int)
  /-- an object that is told by its address alone -/
  | obj (a : Addr)
  /-- a caught exception: its class, its field place -/
  | exc (x : Str) (pl : Option Int)
  /-- a lambda: its address, what was shared when it was made -/
  | clo (f : Addr) (B : Addr → Option HO)
/-- an exception's object -/
def ExX (cls : Value) (d : Option Addr) (a : Addr) : HO := .ext fun h => ∃ (oe : Obj) (vs : Array Value), h.get? a = some oe ∧ Zc cls d oe ∧ oe.data = .fields vs
/-- a draw's dict -/
def DrawD (o : HO) : Prop := ∃ (r m : Int) (more : List (Key × V)), o = .dK ((.inr "rest", .int r) :: (.inr "mixed", .int m) :: more) ∧ 0 ≤ r ∧ 0 ≤ m ∧ m < 2147483647 ∧ more.length ≤ 20 ∧ ∀ p ∈ more, p.1 ≠ .inr "rest" ∧ p.1 ≠ .inr "mixed"
/-- a draw's list: what stands in it is left open -/
def DrL (a : Addr) : HO := .ext fun h => ∃ (r m c : Int) (t u v : Tok) (n : Nat), h.get? a = some { cls := .type "list", data := .seq #[.int r t, .int m u, .int c v] n } ∧ 0 ≤ r ∧ 0 ≤ m ∧ m < 2147483647
/-- what may be changed though it is shared: draws, tables of code objects -/
def DrawO (o : HO) : Prop := DrawD o ∨ ∃ ps, o = .tbl ps
/-- what it may become -/
def Mv (o u : HO) : Prop := (DrawD o ∧ DrawD u) ∨ ((∃ ps, o = .tbl ps) ∧ ∃ ps, u = .tbl ps)
theorem Mv.refl {o : HO} : DrawO o → Mv o o
  | .inl d => .inl ⟨d, d⟩
  | .inr d => .inr ⟨d, d⟩
theorem Mv.trans {o u v : HO} (a : Mv o u) (b : Mv u v) : Mv o v := by
  rcases a with ⟨a, a2⟩ | ⟨a, a2⟩
  · rcases b with ⟨_, b⟩ | ⟨⟨ps, b⟩, _⟩
    · exact .inl ⟨a, b⟩
    · obtain ⟨_, _, _, e, _⟩ := a2; rw [b] at e; cases e
  · rcases b with ⟨b, _⟩ | ⟨_, b⟩
    · obtain ⟨_, _, _, e, _⟩ := b; obtain ⟨ps, e2⟩ := a2; rw [e2] at e; cases e
    · exact .inr ⟨a, b⟩
theorem notMv {o : HO} (h1 : ∀ l, o ≠ .dK l) (h2 : ∀ ps, o ≠ .tbl ps) : ¬ DrawO o
  | .inl ⟨_, _, _, e, _⟩ => h1 _ e
  | .inr ⟨_, e⟩ => h2 _ e
theorem DrawO.lst {xs : List V} : ¬ DrawO (.lst xs) := notMv (fun _ e => nomatch e) fun _ e => nomatch e
theorem DrawO.tup {xs : List V} : ¬ DrawO (.tup xs) := notMv (fun _ e => nomatch e) fun _ e => nomatch e
theorem DrawO.frz {o : Obj} {u : HO} : ¬ DrawO (.frz o u) := notMv (fun _ e => nomatch e) fun _ e => nomatch e
theorem DrawO.ext {φ : Heap → Prop} : ¬ DrawO (.ext φ) := notMv (fun _ e => nomatch e) fun _ e => nomatch e
theorem DrawO.xd {fs : List (Str × V)} : ¬ DrawO (.xd fs) := notMv (fun _ e => nomatch e) fun _ e => nomatch e
theorem DrawO.ins {C dx : Addr} {fs : List (Str × V)} : ¬ DrawO (.ins C dx fs) := notMv (fun _ e => nomatch e) fun _ e => nomatch e
theorem DrawO.own {a : Addr} : ¬ DrawO (.own a) := notMv (fun _ e => nomatch e) fun _ e => nomatch e
theorem DrawO.dK {kvs : List (Key × V)} (h : ¬ DrawD (.dK kvs)) : ¬ DrawO (.dK kvs)
  | .inl d => h d
  | .inr ⟨_, e⟩ => nomatch e
/-- the field place -/
def ExPl (B : Hp) (d : Option Addr) : Option Int → Prop
  | none => d = none
  | some i => ∃ a, d = some a ∧ B a = some (.xd [("place", .int i)])
/-- H has what B has (draws may have gone on) -/
def Kp (B H : Hp) : Prop := ∀ a o, B a = some o → (¬ DrawO o → H a = some o) ∧ (DrawO o → ∃ u, H a = some u ∧ Mv o u)
theorem Kp.refl (H : Hp) : Kp H H := fun _ o h => ⟨fun _ => h, fun d => ⟨o, h, .refl d⟩⟩
theorem Kp.trans {A B C : Hp} (f : Kp A B) (g : Kp B C) : Kp A C := fun a o h =>
  ⟨fun n => (g a o ((f a o h).1 n)).1 n, fun d => by
    obtain ⟨u, e, du⟩ := (f a o h).2 d
    by_cases d2 : DrawO u
    · obtain ⟨v, e2, dv⟩ := (g a u e).2 d2
      exact ⟨v, e2, du.trans dv⟩
    · exact ⟨u, (g a u e).1 d2, du⟩⟩
theorem Kp.draw {B H : Hp} (f : Kp B H) {a : Addr} {o : HO} (h : B a = some o) (d : DrawD o) : ∃ u, H a = some u ∧ DrawD u := by
  obtain ⟨u, e, m⟩ := (f a o h).2 (.inl d)
  refine ⟨u, e, ?_⟩
  rcases m with ⟨_, m⟩ | ⟨⟨ps, m⟩, _⟩
  · exact m
  · obtain ⟨_, _, _, e, _⟩ := d; rw [m] at e; cases e
theorem Kp.some {B H : Hp} (f : Kp B H) {a : Addr} {o : HO} (h : B a = some o) : ∃ u, H a = some u := by
  by_cases d : DrawO o
  · obtain ⟨u, e, _⟩ := (f a o h).2 d; exact ⟨u, e⟩
  · exact ⟨o, (f a o h).1 d⟩
theorem Kp.none {B H : Hp} (f : Kp B H) {a : Addr} (h : H a = none) : B a = none := by
  cases e : B a with
  | none => rfl
  | some o => obtain ⟨u, q⟩ := f.some e; rw [h] at q; cases q
theorem Kp.upd {B H : Hp} (f : Kp B H) {p : Addr} {o : HO} (h : B p = Option.none) : Kp B (upd H p o) := fun a u e => by
  have ne : a ≠ p := fun z => by rw [z, h] at e; cases e
  rw [upd_ne ne]
  exact f a u e
theorem Kp.upd2 {B H : Hp} (f : Kp B H) (p : Addr) (o : HO) : Kp (L2.upd B p o) (L2.upd H p o) := fun a u e => by
  by_cases z : a = p
  · subst z
    rw [upd_same] at e
    cases e
    rw [upd_same]
    exact ⟨fun _ => rfl, fun d => ⟨_, rfl, .refl d⟩⟩
  · rw [upd_ne z] at e
    rw [upd_ne z]
    exact f a u e
theorem Kp.new {B : Hp} {p : Addr} {o : HO} (h : B p = Option.none) : Kp B (L2.upd B p o) := (Kp.refl B).upd h
theorem kp_rd {B H : Hp} (f : Kp B H) {a : Addr} {u : HO} (n : ¬ DrawO u) (h : Rd B a u) : Rd H a u := by
  rcases h with h | ⟨o, h⟩
  · exact .inl ((f a _ h).1 n)
  · exact .inr ⟨o, (f a _ h).1 DrawO.frz⟩
theorem kp_t {K : PySem.W.Frag} {B H : Hp} (f : Kp B H) {a : Addr} {xs : List V} (h : SqT K B a xs) : SqT K H a xs := h.elim (fun h => .inl (kp_rd f DrawO.tup h)) .inr
theorem kp_l {K : PySem.W.Frag} {B H : Hp} (f : Kp B H) {a : Addr} {xs : List V} (h : SqL K B a xs) : SqL K H a xs := h.elim (fun h => .inl (kp_rd f DrawO.lst h)) .inr
section
variable (K : PySem.W.Frag) (B : Hp)
mutual
inductive Rep : V → D → Prop
  | non : Rep .non .non
  | bl (b : Bool) : Rep (.bl b) (.bl b)
  | int (i : Int) : Rep (.int i) (.int i)
  | str (x : Str) : Rep (.str x) (.str x)
  | ty (n : String) : Rep (.ty n) (.ty n)
  | tup {a : Addr} {vs : List V} {ds : List D} (h : SqT K B a vs) (r : RepL vs ds) : Rep (.ref a) (.tup ds)
  | lst {a : Addr} {vs : List V} {ds : List D} (h : B a = some (.lst vs)) (r : RepL vs ds) : Rep (.ref a) (.lst ds)
  | dic {a : Addr} {kvs : List (Key × V)} {kds : List (Key × D)} (h : B a = some (.dK kvs)) (n : ¬ DrawO (.dK kvs)) (r : RepK kvs kds) : Rep (.ref a) (.dic kds)
  | draw {a : Addr} {o : HO} (h : B a = some o) (d : DrawD o) : Rep (.ref a) .draw
  | drawl {a : Addr} (h : B a = some (DrL a)) : Rep (.ref a) .drawl
  | scr {a : Addr} {ns : List Int} (h : SqL K B a (ns.map V.int)) : Rep (.ref a) (.scr ns)
  | obj (a : Addr) : Rep (.ref a) (.obj a)
  | exc {a c : Addr} {x : Str} {d : Option Addr} {pl : Option Int} (hc : PySem.W.nsIn K mainGlobals x = some (some (.ref c))) (h : B a = some (ExX (.ref c) d a)) (hp : ExPl B d pl) : Rep (.ref a) (.exc x pl)
  | clo {f : Addr} {B0 : Hp} (h : Kp B0 B) : Rep (.ref f) (.clo f B0)
inductive RepL : List V → List D → Prop
  | nil : RepL [] []
  | cons {v : V} {vs : List V} {d : D} {ds : List D} (h : Rep v d) (r : RepL vs ds) : RepL (v :: vs) (d :: ds)
inductive RepK : List (Key × V) → List (Key × D) → Prop
  | nil : RepK [] []
  | cons {k : Key} {v : V} {vs : List (Key × V)} {d : D} {ds : List (Key × D)} (h : Rep v d) (r : RepK vs ds) : RepK ((k, v) :: vs) ((k, d) :: ds)
end
end
section
variable {K : PySem.W.Frag} {B H : Hp}
theorem ExPl.mono (f : Kp B H) {d : Option Addr} : ∀ {pl : Option Int}, ExPl B d pl → ExPl H d pl
  | none, h => h
  | some _, ⟨a, e, h⟩ => ⟨a, e, (f _ _ h).1 DrawO.xd⟩
mutual
theorem Rep.mono (f : Kp B H) : ∀ {v : V} {d : D}, Rep K B v d → Rep K H v d
  | _, _, .non => .non
  | _, _, .bl b => .bl b
  | _, _, .int i => .int i
  | _, _, .str x => .str x
  | _, _, .ty n => .ty n
  | _, _, .tup h r => .tup (kp_t f h) (RepL.mono f r)
  | _, _, .lst h r => .lst ((f _ _ h).1 DrawO.lst) (RepL.mono f r)
  | _, _, .dic h n r => .dic ((f _ _ h).1 n) n (RepK.mono f r)
  | _, _, .draw h d => let ⟨_, e, du⟩ := f.draw h d; .draw e du
  | _, _, .drawl h => .drawl ((f _ _ h).1 DrawO.ext)
  | _, _, .scr h => .scr (kp_l f h)
  | _, _, .obj a => .obj a
  | _, _, .exc hc h hp => .exc hc ((f _ _ h).1 DrawO.ext) (hp.mono f)
  | _, _, .clo h => .clo (h.trans f)
theorem RepL.mono (f : Kp B H) : ∀ {vs : List V} {ds : List D}, RepL K B vs ds → RepL K H vs ds
  | _, _, .nil => .nil
  | _, _, .cons h r => .cons (Rep.mono f h) (RepL.mono f r)
theorem RepK.mono (f : Kp B H) : ∀ {vs : List (Key × V)} {ds : List (Key × D)}, RepK K B vs ds → RepK K H vs ds
  | _, _, .nil => .nil
  | _, _, .cons h r => .cons (Rep.mono f h) (RepK.mono f r)
end
theorem RepL.length : ∀ {vs : List V} {ds : List D}, RepL K B vs ds → vs.length = ds.length
  | _, _, .nil => rfl
  | _, _, .cons _ r => congrArg (· + 1) (RepL.length r)
theorem RepL.append : ∀ {vs ws : List V} {ds es : List D}, RepL K B vs ds → RepL K B ws es → RepL K B (vs ++ ws) (ds ++ es)
  | _, _, _, _, .nil, s => s
  | _, _, _, _, .cons h r, s => .cons h (RepL.append r s)
theorem RepL.get : ∀ {vs : List V} {ds : List D} {i : Nat} {d : D}, RepL K B vs ds → ds[i]? = some d → ∃ v, vs[i]? = some v ∧ Rep K B v d
  | _, _, _, _, .nil, e => by simp at e
  | _, _, 0, _, .cons h _, e => by simp at e; subst e; exact ⟨_, rfl, h⟩
  | _, _, i + 1, d, .cons _ r, e => by
    obtain ⟨v, h1, h2⟩ := RepL.get (i := i) (d := d) r (by simpa using e)
    exact ⟨v, by simpa using h1, h2⟩
theorem RepL.getV : ∀ {vs : List V} {ds : List D} {i : Nat} {v : V}, RepL K B vs ds → vs[i]? = some v → ∃ d, ds[i]? = some d ∧ Rep K B v d
  | _, _, _, _, .nil, e => by simp at e
  | _, _, 0, _, .cons h _, e => by simp at e; subst e; exact ⟨_, rfl, h⟩
  | _, _, i + 1, d, .cons _ r, e => by
    obtain ⟨v, h1, h2⟩ := RepL.getV (i := i) (v := d) r (by simpa using e)
    exact ⟨v, by simpa using h1, h2⟩
theorem RepL.take : ∀ {vs : List V} {ds : List D} (n : Nat), RepL K B vs ds → RepL K B (vs.take n) (ds.take n)
  | _, _, 0, _ => .nil
  | _, _, _ + 1, .nil => .nil
  | _, _, n + 1, .cons h r => .cons h (RepL.take n r)
theorem RepL.drop : ∀ {vs : List V} {ds : List D} (n : Nat), RepL K B vs ds → RepL K B (vs.drop n) (ds.drop n)
  | _, _, 0, r => r
  | _, _, _ + 1, .nil => .nil
  | _, _, n + 1, .cons _ r => RepL.drop n r
theorem RepL.set {v : V} {d : D} (h : Rep K B v d) : ∀ {vs : List V} {ds : List D} (n : Nat), RepL K B vs ds → RepL K B (vs.set n v) (ds.set n d)
  | _, _, _, .nil => .nil
  | _, _, 0, .cons _ t => .cons h t
  | _, _, n + 1, .cons q t => .cons q (RepL.set h n t)
theorem RepL.ints : ∀ ns : List Int, RepL K B (ns.map V.int) (ns.map D.int)
  | [] => .nil
  | i :: r => .cons (.int i) (RepL.ints r)
theorem RepL.strs : ∀ ns : List Str, RepL K B (ns.map V.str) (ns.map D.str)
  | [] => .nil
  | i :: r => .cons (.str i) (RepL.strs r)
end
/-- what an evaluation may change: B (what is shared) grows, H has it, all else stands and stays apart -/
structure Step (B H B' H' : Hp) : Prop where
  kp : Kp B B'
  sub : Kp B' H'
  out : ∀ a o, H a = some o → B a = none → H' a = some o ∧ B' a = none
theorem Step.refl {B H : Hp} (k : Kp B H) : Step B H B H := ⟨.refl B, k, fun _ _ h n => ⟨h, n⟩⟩
theorem Step.trans {B H B1 H1 B2 H2 : Hp} (a : Step B H B1 H1) (b : Step B1 H1 B2 H2) : Step B H B2 H2 :=
  ⟨a.kp.trans b.kp, b.sub, fun x o h n => let ⟨h1, n1⟩ := a.out x o h n; b.out x o h1 n1⟩
theorem Step.has {B H B' H' : Hp} (s : Step B H B' H') {a : Addr} {o : HO} (h : H a = some o) : ∃ u, H' a = some u := by
  cases e : B a with
  | none => exact ⟨o, (s.out a o h e).1⟩
  | some u =>
    obtain ⟨w, q⟩ := s.kp.some e
    exact s.sub.some q
theorem Step.free {B H B' H' : Hp} (s : Step B H B' H') {a : Addr} (h : H' a = none) : H a = none := by
  cases e : H a with
  | none => rfl
  | some o => obtain ⟨u, q⟩ := s.has e; rw [h] at q; cases q
/-- a new thing that is shared -/
theorem Step.new {B H : Hp} (k : Kp B H) {p : Addr} {o : HO} (n : H p = none) : Step B H (upd B p o) (upd H p o) :=
  ⟨.new (k.none n), k.upd2 p o, fun a u h nb => by
    have ne : a ≠ p := ne_of_none h n
    rw [upd_ne ne, upd_ne ne]
    exact ⟨h, nb⟩⟩
/-- a new thing that is not yet shared -/
theorem Step.tmp {B H : Hp} (k : Kp B H) {p : Addr} {o : HO} (n : H p = none) : Step B H B (upd H p o) :=
  ⟨.refl B, k.upd (k.none n), fun a u h nb => by
    have ne : a ≠ p := ne_of_none h n
    rw [upd_ne ne]
    exact ⟨h, nb⟩⟩
/-- a draw goes on -/
theorem Step.draw {B H : Hp} (k : Kp B H) {d : Addr} {o u : HO} (h : B d = some o) (dr : DrawO o) (du : Mv o u) : Step B H B (upd H d u) :=
  ⟨.refl B, fun a v e => by
    by_cases z : a = d
    · subst z
      rw [h] at e
      cases e
      rw [upd_same]
      exact ⟨fun n => absurd dr n, fun _ => ⟨_, rfl, du⟩⟩
    · rw [upd_ne z]
      exact k a v e, fun a v e nb => by
    have z : a ≠ d := fun z => by rw [z, h] at nb; cases nb
    rw [upd_ne z]
    exact ⟨e, nb⟩⟩
/-- what a container holds that is not shared yet -/
inductive Ct where
  | lst (l : List D) | dic (l : List (Key × D))
def Ct.d : Ct → D
  | .lst l => .lst l
  | .dic l => .dic l
/-- an expression's value: shared data, or a container that has one owner -/
inductive Val where
  | dat (d : D) | tmp (c : Ct)
def Val.d : Val → D
  | .dat d => d
  | .tmp c => c.d
def RepC (K : PySem.W.Frag) (B H : Hp) (p : Addr) : Ct → Prop
  | .lst ds => ∃ vs, H p = some (.lst vs) ∧ RepL K B vs ds
  | .dic kds => ∃ kvs, H p = some (.dK kvs) ∧ RepK K B kvs kds
def RepV (K : PySem.W.Frag) (B H : Hp) (v : V) : Val → Prop
  | .dat d => Rep K B v d
  | .tmp c => ∃ p, v = .ref p ∧ B p = none ∧ RepC K B H p c
theorem RepC.has {K : PySem.W.Frag} {B H : Hp} {p : Addr} {c : Ct} (h : RepC K B H p c) : ∃ o, H p = some o := by
  cases c with
  | lst ds => obtain ⟨vs, e, _⟩ := h; exact ⟨_, e⟩
  | dic ds => obtain ⟨vs, e, _⟩ := h; exact ⟨_, e⟩
theorem RepC.move {K : PySem.W.Frag} {B H B' H' : Hp} {p : Addr} {c : Ct} (k : Kp B B') (e : ∀ o, H p = some o → H' p = some o) (h : RepC K B H p c) : RepC K B' H' p c := by
  cases c with
  | lst ds => obtain ⟨vs, q, r⟩ := h; exact ⟨vs, e _ q, r.mono k⟩
  | dic ds => obtain ⟨vs, q, r⟩ := h; exact ⟨vs, e _ q, r.mono k⟩
theorem RepV.step {K : PySem.W.Frag} {B H B' H' : Hp} {v : V} {x : Val} (s : Step B H B' H') (h : RepV K B H v x) : RepV K B' H' v x := by
  cases x with
  | dat d => exact Rep.mono s.kp h
  | tmp c =>
    obtain ⟨p, rfl, n, r⟩ := h
    obtain ⟨o, ho⟩ := r.has
    have q := s.out p o ho n
    exact ⟨p, rfl, q.2, r.move s.kp fun u hu => by rw [ho] at hu; cases hu; exact q.1⟩
/-- a value's own container is new -/
def Fr (H : Hp) (v : V) (x : Val) : Prop := ∀ p c, v = .ref p → x = .tmp c → H p = none
theorem Fr.dat {H : Hp} {v : V} {d : D} : Fr H v (.dat d) := fun _ _ _ e => nomatch e
/-! ### a frame's names -/
abbrev DEnv := List (Option Val)
def lk : DEnv → Nat → Option Val
  | [], _ => none
  | x :: _, 0 => x
  | _ :: r, i + 1 => lk r i
def st : DEnv → Nat → Option Val → DEnv
  | [], _, _ => []
  | _ :: r, 0, v => v :: r
  | x :: r, i + 1, v => x :: st r i v
theorem st_length (v : Option Val) : ∀ (e : DEnv) (i : Nat), (st e i v).length = e.length
  | [], _ => rfl
  | _ :: _, 0 => rfl
  | _ :: r, i + 1 => congrArg (· + 1) (st_length v r i)
theorem lk_lt : ∀ {e : DEnv} {i : Nat} {v : Val}, lk e i = some v → i < e.length
  | [], _, _, h => nomatch h
  | _ :: _, 0, _, _ => Nat.succ_pos _
  | _ :: r, i + 1, v, h => Nat.succ_lt_succ (lk_lt (e := r) (i := i) (v := v) h)
theorem lk_st_same {v : Option Val} : ∀ {e : DEnv} {i : Nat}, i < e.length → lk (st e i v) i = v
  | [], _, h => absurd h (Nat.not_lt_zero _)
  | _ :: _, 0, _ => rfl
  | _ :: r, i + 1, h => lk_st_same (e := r) (i := i) (Nat.lt_of_succ_lt_succ h)
theorem lk_st_ne {v : Option Val} : ∀ {e : DEnv} {i j : Nat}, i ≠ j → lk (st e i v) j = lk e j
  | [], _, _, _ => rfl
  | _ :: _, 0, 0, h => absurd rfl h
  | _ :: _, 0, _ + 1, _ => rfl
  | _ :: _, _ + 1, 0, _ => rfl
  | _ :: r, i + 1, j + 1, h => lk_st_ne (e := r) (i := i) (j := j) fun z => h (by rw [z])
/-- the frame's own containers -/
def Owns (s : L2.St) (r : DEnv) (a : Addr) : Prop := ∃ i c, lk r i = some (.tmp c) ∧ s[i]? = some (some (.ref a))
structure EnvRep (K : PySem.W.Frag) (B H : Hp) (s : L2.St) (r : DEnv) : Prop where
  len : s.length = r.length
  at_ : ∀ i x, lk r i = some x → ∃ v, s[i]? = some (some v) ∧ RepV K B H v x
  dis : ∀ i j c c' a, lk r i = some (.tmp c) → lk r j = some (.tmp c') → s[i]? = some (some (.ref a)) → s[j]? = some (some (.ref a)) → i = j
section
variable {K : PySem.W.Frag} {B H B' H' : Hp} {s : L2.St} {r : DEnv}
theorem EnvRep.step (z : Step B H B' H') (e : EnvRep K B H s r) : EnvRep K B' H' s r :=
  ⟨e.len, fun i x h => let ⟨v, q, w⟩ := e.at_ i x h; ⟨v, q, w.step z⟩, e.dis⟩
theorem EnvRep.owned (e : EnvRep K B H s r) {a : Addr} (h : Owns s r a) : B a = none ∧ ∃ o, H a = some o := by
  obtain ⟨i, c, h1, h2⟩ := h
  obtain ⟨v, q, p, rfl, n, w⟩ := e.at_ i _ h1
  rw [h2] at q
  cases q
  exact ⟨n, w.has⟩
theorem EnvRep.set (e : EnvRep K B H s r) {i : Nat} {v : V} {x : Val} (h : RepV K B H v x) (f : ∀ a c, v = .ref a → x = .tmp c → ¬ Owns s r a) : EnvRep K B H (s.set i (some v)) (st r i (some x)) := by
  refine ⟨by rw [List.length_set, st_length, e.len], fun j y hj => ?_, fun j k c c' a h1 h2 h3 h4 => ?_⟩
  · by_cases z : i = j
    · subst z
      have hl := lk_lt hj
      rw [st_length] at hl
      rw [lk_st_same hl] at hj
      cases hj
      exact ⟨v, by rw [List.getElem?_set_self (by rw [e.len]; exact hl)], h⟩
    · rw [lk_st_ne z] at hj
      rw [List.getElem?_set_ne z]
      exact e.at_ j y hj
  · by_cases z : i = j
    · subst z
      by_cases z2 : i = k
      · exact z2
      · have hl := lk_lt h1
        rw [st_length] at hl
        rw [lk_st_same hl] at h1
        rw [lk_st_ne z2] at h2
        rw [List.getElem?_set_self (by rw [e.len]; exact hl)] at h3
        rw [List.getElem?_set_ne z2] at h4
        cases h1
        cases h3
        exact absurd ⟨k, c', h2, h4⟩ (f a c rfl rfl)
    · by_cases z2 : i = k
      · subst z2
        have hl := lk_lt h2
        rw [st_length] at hl
        rw [lk_st_same hl] at h2
        rw [lk_st_ne z] at h1
        rw [List.getElem?_set_self (by rw [e.len]; exact hl)] at h4
        rw [List.getElem?_set_ne z] at h3
        cases h2
        cases h4
        exact absurd ⟨j, c, h1, h3⟩ (f a c' rfl rfl)
      · rw [lk_st_ne z] at h1
        rw [lk_st_ne z2] at h2
        rw [List.getElem?_set_ne z] at h3
        rw [List.getElem?_set_ne z2] at h4
        exact e.dis j k c c' a h1 h2 h3 h4
end
/-! ### exceptions by data: the class, the field place -/
abbrev Exc := Str × Option Int
/-- the class that the module's top names x -/
def ClsAt (K : PySem.W.Frag) (x : Str) (c : Addr) : Prop := PySem.W.nsIn K mainGlobals x = some (some (.ref c))
def ExcRep (K : PySem.W.Frag) (B : Hp) (cls : Value) (d : Option Addr) (e : Exc) : Prop := (∃ c, cls = .ref c ∧ ClsAt K e.1 c) ∧ ExPl B d e.2
abbrev DX := Exc → DEnv → Prop
/-! ### what a statement may change -/
structure StepS (B H : Hp) (s : L2.St) (r : DEnv) (B' H' : Hp) (s' : L2.St) (r' : DEnv) : Prop where
  kp : Kp B B'
  sub : Kp B' H'
  out : ∀ a o, H a = some o → B a = none → ¬ Owns s r a → H' a = some o ∧ B' a = none ∧ ¬ Owns s' r' a
theorem StepS.refl {B H : Hp} {s : L2.St} {r : DEnv} (k : Kp B H) : StepS B H s r B H s r := ⟨.refl B, k, fun _ _ h n w => ⟨h, n, w⟩⟩
theorem StepS.trans {B H B1 H1 B2 H2 : Hp} {s s1 s2 : L2.St} {r r1 r2 : DEnv} (a : StepS B H s r B1 H1 s1 r1) (b : StepS B1 H1 s1 r1 B2 H2 s2 r2) : StepS B H s r B2 H2 s2 r2 :=
  ⟨a.kp.trans b.kp, b.sub, fun x o h n w => let ⟨h1, n1, w1⟩ := a.out x o h n w; b.out x o h1 n1 w1⟩
theorem Step.s {B H B' H' : Hp} {s : L2.St} {r : DEnv} (z : Step B H B' H') : StepS B H s r B' H' s r := ⟨z.kp, z.sub, fun a o h n w => ⟨(z.out a o h n).1, (z.out a o h n).2, w⟩⟩
/-! ### the readings by data -/
abbrev DE := DX → DEnv → (Val → Prop) → Prop
abbrev DT := DX → DEnv → (Bool → Prop) → Prop
abbrev DA := DX → DEnv → (List D → Prop) → Prop
abbrev DI := DX → DEnv → (List D → Prop) → Prop
structure DEnds where
  nx : DEnv → Prop
  rt : Val → Prop
  bk : DEnv → Prop := fun _ => False
  ct : DEnv → Prop := fun _ => False
abbrev DS := DX → DEnds → DEnv → Prop
/-- an expression; fr: its own container is new (else it may be a name's) -/
def L (K : PySem.W.Frag) (W : WX) (fr : Bool) (de : DE) : TE := fun s H Q => ∃ B r xc P, Kp B H ∧ EnvRep K B H s r ∧ de xc r P ∧
  (∀ cls d e H' B', Step B H B' H' → ExcRep K B' cls d e → xc e r → W cls d s H') ∧
  ∀ v x H' B', Step B H B' H' → RepV K B' H' v x → (fr = true → Fr H v x) → P x → Q v H'
def LT (K : PySem.W.Frag) (W : WX) (dt : DT) : TT := fun s H Q => ∃ B r xc P, Kp B H ∧ EnvRep K B H s r ∧ dt xc r P ∧
  (∀ cls d e H' B', Step B H B' H' → ExcRep K B' cls d e → xc e r → W cls d s H') ∧
  ∀ b H' B', Step B H B' H' → P b → Q b H'
def LA (K : PySem.W.Frag) (W : WX) (da : DA) : TA := fun s H Q => ∃ B r xc P, Kp B H ∧ EnvRep K B H s r ∧ da xc r P ∧
  (∀ cls d e H' B', Step B H B' H' → ExcRep K B' cls d e → xc e r → W cls d s H') ∧
  ∀ vs ds H' B', Step B H B' H' → RepL K B' vs ds → P ds → Q vs H'
/-- an iterator that gives just these things, as long as what is at src stands -/
def ItOk (K : PySem.W.Frag) (J : It) (ds : List D) (B H : Hp) (src : Addr → Prop) : Prop := ∀ B2 H2 (i : Nat), Kp B B2 → Kp B2 H2 → (∀ p o, src p → H p = some o → H2 p = some o ∧ B2 p = none) →
  (∀ d, ds[i]? = some d → J.go i H2 ∧ ∀ x H3, J.yld i H2 x H3 → ∃ B3, Step B2 H2 B3 H3 ∧ Rep K B3 x d) ∧ (ds.length = i → J.stop i H2)
def LI (K : PySem.W.Frag) (W : WX) (di : DI) : TI := fun s H R => ∃ B r xc P, Kp B H ∧ EnvRep K B H s r ∧ di xc r P ∧
  (∀ cls d e H' B', Step B H B' H' → ExcRep K B' cls d e → xc e r → W cls d s H') ∧
  ∀ J ds H' B' src, Step B H B' H' → (∀ p, src p → H p = none ∧ B' p = none ∧ ∃ o, H' p = some o ∧ ∀ φ, o ≠ .ext φ) → ItOk K J ds B' H' src → P ds → R J H'
def LS (K : PySem.W.Frag) (W : WX) (ds : DS) : TS := fun E s H => ∃ B r xc De, Kp B H ∧ EnvRep K B H s r ∧ ds xc De r ∧
  (∀ cls d e s' r' H' B', StepS B H s r B' H' s' r' → EnvRep K B' H' s' r' → ExcRep K B' cls d e → xc e r' → W cls d s' H') ∧
  (∀ s' r' H' B', StepS B H s r B' H' s' r' → EnvRep K B' H' s' r' → De.nx r' → E.nx s' H') ∧
  (∀ s' r' H' B', StepS B H s r B' H' s' r' → EnvRep K B' H' s' r' → De.bk r' → E.bk s' H') ∧
  (∀ s' r' H' B', StepS B H s r B' H' s' r' → EnvRep K B' H' s' r' → De.ct r' → E.ct s' H') ∧
  ∀ v x H' B', StepS B H s r B' H' [some v] [some x] → RepV K B' H' v x → De.rt x → E.rt v H'
/-- what a def promises, by data -/
abbrev DSp := List D → (Exc → Prop) → (Val → Prop) → Prop
def spD (K : PySem.W.Frag) (sp : DSp) : Sp := fun vs H Q E => ∃ B ds xc P, Kp B H ∧ RepL K B vs ds ∧ sp ds xc P ∧
  (∀ cls d e H' B', Step B H B' H' → ExcRep K B' cls d e → xc e → E cls d H') ∧
  ∀ v x H' B', Step B H B' H' → RepV K B' H' v x → Fr H v x → P x → Q v H'
end Dl
/-! Dl2: expressions read by data: names, constants, operators, tests, displays. -/
namespace Dl
open PySem PySem.Spec PyProof.Rows L2
section
variable {X : Cx}
theorem imE {e : Expr} {t u : TE} (h : PE X e t) (f : ∀ s H Q, u s H Q → t s H Q) : PE X e u := ⟨fun pins s r H Q I q => h.run pins s r H Q I (f _ _ _ q)⟩
theorem imT {e : Expr} {t u : TT} (h : PT X e t) (f : ∀ s H Q, u s H Q → t s H Q) : PT X e u := ⟨fun pins s r H Q I q => h.run pins s r H Q I (f _ _ _ q)⟩
theorem imW {e : Expr} {t u : TT} (h : PW X e t) (f : ∀ s H Q, u s H Q → t s H Q) : PW X e u := ⟨fun w pins s r H Q I q => h.run w pins s r H Q I (f _ _ _ q)⟩
theorem imA {e : List Expr} {t u : TA} (h : PA X e t) (f : ∀ s H Q, u s H Q → t s H Q) : PA X e u := ⟨fun pos pins s r H Q I q => h.run pos pins s r H Q I (f _ _ _ q)⟩
theorem imS {e : Stmt} {t u : TS} (h : PS X e t) (f : ∀ s H Q, u s H Q → t s H Q) : PS X e u := ⟨fun pins s r H Q I q => h.run pins s r H Q I (f _ _ _ q)⟩
theorem imSs {e : List Stmt} {t u : TS} (h : PSs X e t) (f : ∀ s H Q, u s H Q → t s H Q) : PSs X e u := ⟨fun pins s r H Q I q => h.run pins s r H Q I (f _ _ _ q)⟩
theorem imI {tg e : Expr} {t u : TI} (h : PI X tg e t) (f : ∀ s H Q, u s H Q → t s H Q) : PI X tg e u := ⟨fun pins s r H Q I q => h.run pins s r H Q I (f _ _ _ q)⟩
end
theorem Fr.back {B H B' H' : Hp} {v : V} {x : Val} (s : Step B H B' H') (f : Fr H' v x) : Fr H v x := fun p c e1 e2 => s.free (f p c e1 e2)
section
variable {X : Cx} {W : WX}
theorem q_weak {e : Expr} {de : DE} (h : PE X e (L X.K W true de)) : PE X e (L X.K W false de) :=
  imE h fun s H Q ⟨B, r, xc, P, k, en, d, hx, hq⟩ => ⟨B, r, xc, P, k, en, d, hx, fun v x H' B' st rv _ p => hq v x H' B' st rv (fun z => nomatch z) p⟩
/-! ### names, constants -/
def dC (d : D) : DE := fun _ _ P => P (.dat d)
theorem l_c {s : L2.St} {H : Hp} {Q : VK} {v : V} {d : D} (rep : ∀ B, Rep X.K B v d) (h : L X.K W true (dC d) s H Q) : Q v H := by
  obtain ⟨B, r, xc, P, k, en, p, hx, hq⟩ := h
  exact hq v (.dat d) H B (.refl k) (rep B) (fun _ => Fr.dat) p
theorem q_int {i : Int} {j : Nat} {pos : Pos} : PE X (.Constant (.int i) j pos) (L X.K W true (dC (.int i))) := imE pe_int fun _ _ _ h => l_c (fun _ => .int i) h
theorem q_bl {i : Bool} {j : Nat} {pos : Pos} : PE X (.Constant (.bool i) j pos) (L X.K W true (dC (.bl i))) := imE pe_bl fun _ _ _ h => l_c (fun _ => .bl i) h
theorem q_non {j : Nat} {pos : Pos} : PE X (.Constant .none j pos) (L X.K W true (dC .non)) := imE pe_non fun _ _ _ h => l_c (fun _ => .non) h
theorem q_str {i : Str} {j : Nat} {pos : Pos} : PE X (.Constant (.str i) j pos) (L X.K W true (dC (.str i))) := imE pe_str fun _ _ _ h => l_c (fun _ => .str i) h
theorem q_glob {x : Str} {pos : Pos} {v : V} {u : Value} {d : D} (hg : Gl X x) (hm : X.mg x = some u) (r : RelV v u) (rep : ∀ B, Rep X.K B v d) (hd : (x == ("__debug__" : Str)) = false := by decide) :
    PE X (.Name x pos) (L X.K W true (dC d)) := imE (pe_glob hg hm r hd) fun _ _ _ h => l_c rep h
theorem q_ty {x : Str} {pos : Pos} {n : String} (hg : Gl X x) (hm : X.mg x = none) (hv : bootBuiltins x = some (.type n)) (hn : x ≠ "__name__" := by decide) (hd : (x == ("__debug__" : Str)) = false := by decide) :
    PE X (.Name x pos) (L X.K W true (dC (.ty n))) := imE (pe_bltn (v := .ty n) hg hm hv rfl hn hd) fun _ _ _ h => l_c (fun _ => .ty n) h
def dVar (i : Nat) : DE := fun _ r P => match lk r i with
  | some x => P x
  | none => False
def dVarM (i : Nat) : DE := fun _ r P => match lk r i with
  | some (.dat d) => P (.dat d)
  | _ => False
theorem q_var (i : Nat) {x : Str} {pos : Pos} (hN : X.N[i]? = some x := by rfl) (hv : Vis X.env.scope x := by first | exact Or.inl rfl | exact Or.inr (Or.inl rfl) | exact Or.inr (Or.inr rfl)) (hd : (x == ("__debug__" : Str)) = false := by decide)
    (hcd : (x == ("__classdict__" : Str)) = false := by decide) : PE X (.Name x pos) (L X.K W false (dVar i)) := imE (pv i hN hv hd hcd) fun s H Q ⟨B, r, xc, P, k, en, p, hx, hq⟩ => by
  unfold dVar at p
  cases e : lk r i with
  | none => rw [e] at p; exact p.elim
  | some y =>
    rw [e] at p
    obtain ⟨v, h1, h2⟩ := en.at_ i y e
    exact ⟨v, h1, hq v y H B (.refl k) h2 (fun z => nomatch z) p⟩
theorem q_varM (i : Nat) {x : Str} {pos : Pos} (hN : X.N[i]? = some x := by rfl) (hv : Vis X.env.scope x := by first | exact Or.inl rfl | exact Or.inr (Or.inl rfl) | exact Or.inr (Or.inr rfl)) (hd : (x == ("__debug__" : Str)) = false := by decide)
    (hcd : (x == ("__classdict__" : Str)) = false := by decide) : PE X (.Name x pos) (L X.K W true (dVarM i)) := imE (pv i hN hv hd hcd) fun s H Q ⟨B, r, xc, P, k, en, p, hx, hq⟩ => by
  unfold dVarM at p
  cases e : lk r i with
  | none => rw [e] at p; exact p.elim
  | some y =>
    rw [e] at p
    cases y with
    | tmp c => exact p.elim
    | dat d =>
      obtain ⟨v, h1, h2⟩ := en.at_ i _ e
      exact ⟨v, h1, hq v _ H B (.refl k) h2 (fun _ => Fr.dat) p⟩
/-! ### the shape of a rule on two values, on one -/
abbrev F2 := Val → Val → (Val → Prop) → Prop
abbrev F1 := Val → (Val → Prop) → Prop
/-- an answer of an operation, by data -/
def Ans (K : PySem.W.Frag) (B H : Hp) (P : Val → Prop) (Q : VK) : Prop := ∀ v x H' B', Step B H B' H' → RepV K B' H' v x → Fr H v x → P x → Q v H'
def RelR (K : PySem.W.Frag) (r : R2) (f : F2) : Prop := ∀ (B H : Hp) (x y : V) (vx vy : Val) (P : Val → Prop) (Q : VK), Kp B H → RepV K B H x vx → RepV K B H y vy → f vx vy P → Ans K B H P Q → r x y H Q
def RelU (K : PySem.W.Frag) (r : V → Hp → VK → Prop) (f : F1) : Prop := ∀ (B H : Hp) (x : V) (vx : Val) (P : Val → Prop) (Q : VK), Kp B H → RepV K B H x vx → f vx P → Ans K B H P Q → r x H Q
theorem Ans.dat {K : PySem.W.Frag} {B H : Hp} {P : Val → Prop} {Q : VK} (a : Ans K B H P Q) (k : Kp B H) {v : V} {d : D} (r : Rep K B v d) (p : P (.dat d)) : Q v H := a v (.dat d) H B (.refl k) r Fr.dat p
theorem Ans.newL {K : PySem.W.Frag} {B H : Hp} {P : Val → Prop} {Q : VK} (a : Ans K B H P Q) (k : Kp B H) {vs : List V} {ds : List D} (r : RepL K B vs ds) (p : P (.tmp (.lst ds))) {q : Addr} (n : H q = none) : Q (.ref q) (upd H q (.lst vs)) :=
  a (.ref q) (.tmp (.lst ds)) _ B (.tmp k n) ⟨q, rfl, k.none n, vs, upd_same, r⟩ (fun _ _ e _ => by cases e; exact n) p
theorem Ans.newT {K : PySem.W.Frag} {B H : Hp} {P : Val → Prop} {Q : VK} (a : Ans K B H P Q) (k : Kp B H) {vs : List V} {ds : List D} (r : RepL K B vs ds) (p : P (.dat (.tup ds))) {q : Addr} (n : H q = none) : Q (.ref q) (upd H q (.tup vs)) :=
  a (.ref q) (.dat (.tup ds)) _ (upd B q (.tup vs)) (.new k n) (.tup (.inl (.inl upd_same)) (r.mono (Kp.new (k.none n)))) Fr.dat p
def dOp (f : F2) (da db : DE) : DE := fun xc r P => da xc r fun x => db xc r fun y => f x y P
def dUn (f : F1) (da : DE) : DE := fun xc r P => da xc r fun x => f x P
theorem l_op {rr : R2} {f : F2} {da db : DE} {fa fb : Bool} (hr : RelR X.K rr f) (s : L2.St) (H : Hp) (Q : VK) (h : L X.K W true (dOp f da db) s H Q) : tOp rr (L X.K W fa da) (L X.K W fb db) s H Q := by
  obtain ⟨B, r, xc, P, k, en, h, hx, hq⟩ := h
  refine ⟨B, r, xc, fun x => db xc r fun y => f x y P, k, en, h, hx, fun x vx H1 B1 s1 rx _ h1 => ?_⟩
  refine ⟨B1, r, xc, fun y => f vx y P, s1.sub, en.step s1, h1, fun cls d e H' B' st => hx cls d e H' B' (s1.trans st), fun y vy H2 B2 s2 ry _ h2 => ?_⟩
  exact hr B2 H2 x y vx vy P Q s2.sub (rx.step s2) ry h2 fun v z H3 B3 s3 rv fr p => hq v z H3 B3 ((s1.trans s2).trans s3) rv (fun _ => (fr.back s2).back s1) p
theorem l_un {rr : V → Hp → VK → Prop} {f : F1} {da : DE} {fa : Bool} (hr : RelU X.K rr f) (s : L2.St) (H : Hp) (Q : VK) (h : L X.K W true (dUn f da) s H Q) : tUn rr (L X.K W fa da) s H Q := by
  obtain ⟨B, r, xc, P, k, en, h, hx, hq⟩ := h
  refine ⟨B, r, xc, fun x => f x P, k, en, h, hx, fun x vx H1 B1 s1 rx _ h1 => ?_⟩
  exact hr B1 H1 x vx P Q s1.sub rx h1 fun v z H3 B3 s3 rv fr p => hq v z H3 B3 (s1.trans s3) rv (fun _ => fr.back s1) p
theorem q_op {a b : Expr} {op : Operator} {pos : Pos} {rr : R2} {f : F2} {da db : DE} {fa fb : Bool} (ho : OpR X (binaryOp op) rr) (hr : RelR X.K rr f) (ha : PE X a (L X.K W fa da)) (hb : PE X b (L X.K W fb db)) :
    PE X (.BinOp a op b pos) (L X.K W true (dOp f da db)) := imE (pe_op ho ha hb) (l_op hr)
theorem q_un {a : Expr} {op : UnaryOp} {pos : Pos} {rr : V → Hp → VK → Prop} {f : F1} {da : DE} {fa : Bool} (ho : UnR X (unaryOp op) rr) (hr : RelU X.K rr f) (ha : PE X a (L X.K W fa da)) :
    PE X (.UnaryOp op a pos) (L X.K W true (dUn f da)) := imE (pe_un ho ha) (l_un hr)
theorem q_cmp {a b : Expr} {op : CmpOp} {pos : Pos} {rr : R2} {f : F2} {da db : DE} {fa fb : Bool} (ho : OpR X (compareOp op) rr) (hr : RelR X.K rr f) (ha : PE X a (L X.K W fa da)) (hb : PE X b (L X.K W fb db)) (hm : behindInMarks op b = false) :
    PE X (.Compare a [op] [b] pos) (L X.K W true (dOp f da db)) := imE (pe_cmpR ho ha hb hm) (l_op hr)
theorem q_ix {a b : Expr} {pos : Pos} {rr : R2} {f : F2} {da db : DE} {fa fb : Bool} (ho : IxR X rr) (hr : RelR X.K rr f) (ha : PE X a (L X.K W fa da)) (hb : PE X b (L X.K W fb db)) (hs : PlainIx b := by exact fun _ _ => rfl) :
    PE X (.Subscript a b pos) (L X.K W true (dOp f da db)) := imE (pe_ix ho ha hb hs) (l_op hr)
/-! ### unions of rules -/
theorem or_op {f : Value → Value → Sem Value} {r1 r2 : R2} (a : OpR X f r1) (b : OpR X f r2) : OpR X f (fun x y H Q => r1 x y H Q ∨ r2 x y H Q) := fun pins s t H x y v u Q I rx ry h =>
  h.elim (a pins s t H x y v u Q I rx ry) (b pins s t H x y v u Q I rx ry)
/-! ### what a value is, from its data -/
theorem rv_int {K : PySem.W.Frag} {B H : Hp} {v : V} {x : Val} {i : Int} (r : RepV K B H v x) (e : x.d = .int i) : v = .int i := by
  cases x with
  | dat d => cases (show d = .int i from e); cases r; rfl
  | tmp c => cases c <;> cases e
theorem rv_str {K : PySem.W.Frag} {B H : Hp} {v : V} {x : Val} {i : Str} (r : RepV K B H v x) (e : x.d = .str i) : v = .str i := by
  cases x with
  | dat d => cases (show d = .str i from e); cases r; rfl
  | tmp c => cases c <;> cases e
theorem rv_bl {K : PySem.W.Frag} {B H : Hp} {v : V} {x : Val} {i : Bool} (r : RepV K B H v x) (e : x.d = .bl i) : v = .bl i := by
  cases x with
  | dat d => cases (show d = .bl i from e); cases r; rfl
  | tmp c => cases c <;> cases e
theorem rv_non {K : PySem.W.Frag} {B H : Hp} {v : V} {x : Val} (r : RepV K B H v x) (e : x.d = .non) : v = .non := by
  cases x with
  | dat d => cases (show d = .non from e); cases r; rfl
  | tmp c => cases c <;> cases e
theorem rv_ty {K : PySem.W.Frag} {B H : Hp} {v : V} {x : Val} {n : String} (r : RepV K B H v x) (e : x.d = .ty n) : v = .ty n := by
  cases x with
  | dat d => cases (show d = .ty n from e); cases r; rfl
  | tmp c => cases c <;> cases e
theorem rv_tup {K : PySem.W.Frag} {B H : Hp} {v : V} {x : Val} {ds : List D} (k : Kp B H) (r : RepV K B H v x) (e : x.d = .tup ds) : ∃ a vs, v = .ref a ∧ SqT K B a vs ∧ SqT K H a vs ∧ RepL K B vs ds := by
  cases x with
  | dat d =>
    cases (show d = .tup ds from e)
    cases r with
    | tup h r => exact ⟨_, _, rfl, h, kp_t k h, r⟩
  | tmp c => cases c <;> cases e
theorem rv_lst {K : PySem.W.Frag} {B H : Hp} {v : V} {x : Val} {ds : List D} (k : Kp B H) (r : RepV K B H v x) (e : x.d = .lst ds) : ∃ a vs, v = .ref a ∧ H a = some (.lst vs) ∧ RepL K B vs ds := by
  cases x with
  | dat d =>
    cases (show d = .lst ds from e)
    cases r with
    | lst h r => exact ⟨_, _, rfl, (k _ _ h).1 DrawO.lst, r⟩
  | tmp c =>
    cases c with
    | dic _ => cases e
    | lst es =>
      cases (show D.lst es = D.lst ds from e)
      obtain ⟨p, rfl, n, vs, h, r⟩ := r
      exact ⟨_, _, rfl, h, r⟩
theorem rv_dic {K : PySem.W.Frag} {B H : Hp} {v : V} {x : Val} {ds : List (Key × D)} (k : Kp B H) (r : RepV K B H v x) (e : x.d = .dic ds) : ∃ a kvs, v = .ref a ∧ H a = some (.dK kvs) ∧ RepK K B kvs ds := by
  cases x with
  | dat d =>
    cases (show d = .dic ds from e)
    cases r with
    | dic h n r => exact ⟨_, _, rfl, (k _ _ h).1 n, r⟩
  | tmp c =>
    cases c with
    | lst _ => cases e
    | dic es =>
      cases (show D.dic es = D.dic ds from e)
      obtain ⟨p, rfl, n, vs, h, r⟩ := r
      exact ⟨_, _, rfl, h, r⟩
theorem rv_scr {K : PySem.W.Frag} {B H : Hp} {v : V} {x : Val} {ns : List Int} (k : Kp B H) (r : RepV K B H v x) (e : x.d = .scr ns) : ∃ a, v = .ref a ∧ SqL K H a (ns.map V.int) := by
  cases x with
  | dat d =>
    cases (show d = .scr ns from e)
    cases r with
    | scr h => exact ⟨_, rfl, kp_l k h⟩
  | tmp c => cases c <;> cases e
/-! ### ints -/
def fID (C : Int → Int → Prop) (g : Int → Int → D) (P : Val → Prop) : D → D → Prop
  | .int i, .int j => C i j ∧ P (.dat (g i j))
  | _, _ => False
def fI (C : Int → Int → Prop) (g : Int → Int → D) : F2 := fun x y P => fID C g P x.d y.d
def fI0D (g : Int → Int → D) (P : Val → Prop) : D → D → Prop
  | .int i, .int j => P (.dat (g i j))
  | _, _ => False
def fI0 (g : Int → Int → D) : F2 := fun x y P => fI0D g P x.d y.d
/-- V of flat data -/
def dV : D → V
  | .bl b => .bl b
  | .int i => .int i
  | .str x => .str x
  | .ty n => .ty n
  | _ => .non
def flatD : D → Bool
  | .non => true | .bl _ => true | .int _ => true | .str _ => true
  | _ => false
theorem rep_flat {K : PySem.W.Frag} {B : Hp} {d : D} (h : flatD d = true) : Rep K B (dV d) d := by
  cases d with
  | non => exact .non
  | bl b => exact .bl b
  | int i => exact .int i
  | str x => exact .str x
  | _ => cases h
theorem flat_rep {K : PySem.W.Frag} {B : Hp} {v : V} {d : D} (r : Rep K B v d) (h : flatD d = true) : v = dV d := by
  cases r with
  | non => rfl
  | bl b => rfl
  | int i => rfl
  | str x => rfl
  | _ => cases h
theorem rel_I {C : Int → Int → Prop} {g : Int → Int → D} {G : Int → Int → V} (hG : ∀ i j, G i j = dV (g i j)) (hf : ∀ i j, flatD (g i j) = true) : RelR X.K (rI C G) (fI C g) := by
  intro B H x y vx vy P Q k rx ry h a
  unfold fI fID at h
  split at h
  · rename_i i j e1 e2
    refine ⟨i, j, rv_int rx e1, rv_int ry e2, h.1, ?_⟩
    rw [hG]
    exact a.dat k (rep_flat (hf i j)) h.2
  · exact h.elim
theorem rel_I0 {g : Int → Int → D} {G : Int → Int → V} (hG : ∀ i j, G i j = dV (g i j)) (hf : ∀ i j, flatD (g i j) = true) : RelR X.K (rI0 G) (fI0 g) := by
  intro B H x y vx vy P Q k rx ry h a
  unfold fI0 fI0D at h
  split at h
  · rename_i i j e1 e2
    refine ⟨i, j, rv_int rx e1, rv_int ry e2, ?_⟩
    rw [hG]
    exact a.dat k (rep_flat (hf i j)) h
  · exact h.elim
def fSub : F2 := fI0 fun i j => .int (i - j)
def fMul : F2 := fI CMulW fun i j => .int (i * j)
def fMod : F2 := fI (fun _ j => 0 < j) fun i j => .int (i % j)
def fDiv : F2 := fI CDivW fun i j => .int (i / j)
def fPow : F2 := fI CPow fun i j => .int (i ^ j.toNat)
def fLt : F2 := fI0 fun i j => .bl (decide (i < j))
def fLe : F2 := fI0 fun i j => .bl (decide (i ≤ j))
def fGt : F2 := fI0 fun i j => .bl (decide (j < i))
def fGe : F2 := fI0 fun i j => .bl (decide (j ≤ i))
section
variable {a b : Expr} {pos : Pos} {da db : DE} {fa fb : Bool} (ha : PE X a (L X.K W fa da)) (hb : PE X b (L X.K W fb db))
include ha hb
theorem q_sub : PE X (.BinOp a .Sub b pos) (L X.K W true (dOp fSub da db)) := q_op op_sub (rel_I0 (fun _ _ => rfl) fun _ _ => rfl) ha hb
theorem q_mul : PE X (.BinOp a .Mult b pos) (L X.K W true (dOp fMul da db)) := q_op op_mulW (rel_I (fun _ _ => rfl) fun _ _ => rfl) ha hb
theorem q_mod : PE X (.BinOp a .Mod b pos) (L X.K W true (dOp fMod da db)) := q_op op_mod (rel_I (fun _ _ => rfl) fun _ _ => rfl) ha hb
theorem q_div : PE X (.BinOp a .FloorDiv b pos) (L X.K W true (dOp fDiv da db)) := q_op op_fdivW (rel_I (fun _ _ => rfl) fun _ _ => rfl) ha hb
theorem q_pow : PE X (.BinOp a .Pow b pos) (L X.K W true (dOp fPow da db)) := q_op op_pow (rel_I (fun _ _ => rfl) fun _ _ => rfl) ha hb
theorem q_lt : PE X (.Compare a [.Lt] [b] pos) (L X.K W true (dOp fLt da db)) := q_cmp op_lt (rel_I0 (fun _ _ => rfl) fun _ _ => rfl) ha hb (nomark _)
theorem q_le : PE X (.Compare a [.LtE] [b] pos) (L X.K W true (dOp fLe da db)) := q_cmp op_le (rel_I0 (fun _ _ => rfl) fun _ _ => rfl) ha hb (nomark _)
theorem q_gt : PE X (.Compare a [.Gt] [b] pos) (L X.K W true (dOp fGt da db)) := q_cmp op_gt (rel_I0 (fun _ _ => rfl) fun _ _ => rfl) ha hb (nomark _)
theorem q_ge : PE X (.Compare a [.GtE] [b] pos) (L X.K W true (dOp fGe da db)) := q_cmp op_ge (rel_I0 (fun _ _ => rfl) fun _ _ => rfl) ha hb (nomark _)
end
def fNegD (P : Val → Prop) : D → Prop
  | .int i => P (.dat (.int (-i)))
  | _ => False
def fNeg : F1 := fun x P => fNegD P x.d
theorem q_neg {a : Expr} {pos : Pos} {da : DE} {fa : Bool} (ha : PE X a (L X.K W fa da)) : PE X (.UnaryOp .USub a pos) (L X.K W true (dUn fNeg da)) := q_un un_neg (by
  intro B H x vx P Q k rx h a
  unfold fNeg fNegD at h
  split at h
  · rename_i i e1
    exact ⟨i, rv_int rx e1, a.dat k (.int _) h⟩
  · exact h.elim) ha
/-! ### + -/
def rAddU (K : PySem.W.Frag) : R2 := fun x y H Q => rI0 (fun i j => .int (i + j)) x y H Q ∨ ((∃ i j, x = .str i ∧ y = .str j ∧ i.length + j.length ≤ sizeLine ∧ Q (.str (i ++ j)) H) ∨ (rCat x y H Q ∨ rCatA K x y H Q))
theorem op_addU : OpR X (binaryOp .Add) (rAddU X.K) := or_op op_add (or_op op_add_str (or_op op_cat op_catA))
def fAddD (P : Val → Prop) : D → D → Prop
  | .int i, .int j => P (.dat (.int (i + j)))
  | .str i, .str j => i.length + j.length ≤ sizeLine ∧ P (.dat (.str (i ++ j)))
  | .lst i, .lst j => i.length + j.length ≤ sizeLine ∧ P (.tmp (.lst (i ++ j)))
  | .tup i, .tup j => i.length + j.length ≤ sizeLine ∧ P (.dat (.tup (i ++ j)))
  | _, _ => False
def fAdd : F2 := fun x y P => fAddD P x.d y.d
theorem rel_add : RelR X.K (rAddU X.K) fAdd := by
  intro B H x y vx vy P Q k rx ry h a
  unfold fAdd fAddD at h
  split at h
  · rename_i i j e1 e2
    exact .inl ⟨i, j, rv_int rx e1, rv_int ry e2, a.dat k (.int _) h⟩
  · rename_i i j e1 e2
    exact .inr (.inl ⟨i, j, rv_str rx e1, rv_str ry e2, h.1, a.dat k (.str _) h.2⟩)
  · rename_i i j e1 e2
    obtain ⟨p, vs, rfl, hp, r1⟩ := rv_lst k rx e1
    obtain ⟨q, ws, rfl, hq, r2⟩ := rv_lst k ry e2
    exact .inr (.inr (.inl ⟨p, q, vs, ws, rfl, rfl, hp, hq, by rw [r1.length, r2.length]; exact h.1, fun l n => a.newL k (r1.append r2) h.2 n⟩))
  · rename_i i j e1 e2
    obtain ⟨p, vs, rfl, hp0, hp, r1⟩ := rv_tup k rx e1
    obtain ⟨q, ws, rfl, hq0, hq, r2⟩ := rv_tup k ry e2
    refine .inr (.inr (.inr ⟨p, q, vs, ws, rfl, rfl, hp, hq, by rw [r1.length, r2.length]; exact h.1, fun e => ?_, fun _ e => ?_, fun _ _ l n => a.newT k (r1.append r2) h.2 n⟩))
    · subst e
      cases r1
      exact a.dat k (.tup hq0 r2) h.2
    · subst e
      cases r2
      have h2 := h.2
      rw [List.append_nil] at h2
      exact a.dat k (.tup hp0 r1) h2
  · exact h.elim
theorem q_add {a b : Expr} {pos : Pos} {da db : DE} {fa fb : Bool} (ha : PE X a (L X.K W fa da)) (hb : PE X b (L X.K W fb db)) : PE X (.BinOp a .Add b pos) (L X.K W true (dOp fAdd da db)) := q_op op_addU rel_add ha hb
/-! ### is, is not -/
def rIsU : R2 := fun x y H Q => (y = .non ∧ Q (.bl (decide (x = .non))) H) ∨ rIsB x y H Q
def rIsNU : R2 := fun x y H Q => (y = .non ∧ Q (.bl (!decide (x = .non))) H) ∨ rNotB x y H Q
def D.isN : D → Bool
  | .non => true
  | _ => false
theorem isN_of {K : PySem.W.Frag} {B H : Hp} {v : V} {x : Val} (r : RepV K B H v x) : decide (v = .non) = x.d.isN := by
  cases x with
  | dat d => cases r <;> rfl
  | tmp c =>
    obtain ⟨p, rfl, _⟩ := r
    cases c <;> rfl
/-- x is None; or two truths -/
def fIsD (P : Val → Prop) : D → D → Prop
  | x, .non => P (.dat (.bl x.isN))
  | .bl a, .bl b => P (.dat (.bl (decide (a = b))))
  | _, _ => False
def fIs : F2 := fun x y P => fIsD P x.d y.d
def fIsNotD (P : Val → Prop) : D → D → Prop
  | x, .non => P (.dat (.bl (!x.isN)))
  | .bl a, .bl b => P (.dat (.bl (!decide (a = b))))
  | _, _ => False
def fIsNot : F2 := fun x y P => fIsNotD P x.d y.d
theorem rel_is : RelR X.K rIsU fIs := by
  intro B H x y vx vy P Q k rx ry h a
  unfold fIs at h
  cases e : vy.d with
  | non =>
    rw [e] at h
    rw [fIsD.eq_1] at h
    refine .inl ⟨rv_non ry e, ?_⟩
    rw [isN_of rx]
    exact a.dat k (.bl _) h
  | bl b =>
    cases e1 : vx.d with
    | bl c =>
      rw [e, e1] at h
      exact .inr ⟨c, b, rv_bl rx e1, rv_bl ry e, a.dat k (.bl _) h⟩
    | _ => rw [e, e1] at h; exact h.elim
  | _ => rw [e] at h; unfold fIsD at h; cases e1 : vx.d <;> rw [e1] at h <;> exact h.elim
theorem rel_isNot : RelR X.K rIsNU fIsNot := by
  intro B H x y vx vy P Q k rx ry h a
  unfold fIsNot at h
  cases e : vy.d with
  | non =>
    rw [e] at h
    rw [fIsNotD.eq_1] at h
    refine .inl ⟨rv_non ry e, ?_⟩
    rw [isN_of rx]
    exact a.dat k (.bl _) h
  | bl b =>
    cases e1 : vx.d with
    | bl c =>
      rw [e, e1] at h
      exact .inr ⟨c, b, rv_bl rx e1, rv_bl ry e, a.dat k (.bl _) h⟩
    | _ => rw [e, e1] at h; exact h.elim
  | _ => rw [e] at h; unfold fIsNotD at h; cases e1 : vx.d <;> rw [e1] at h <;> exact h.elim
theorem q_is {a b : Expr} {pos : Pos} {da db : DE} {fa fb : Bool} (ha : PE X a (L X.K W fa da)) (hb : PE X b (L X.K W fb db)) : PE X (.Compare a [.Is] [b] pos) (L X.K W true (dOp fIs da db)) := q_cmp (or_op op_isN op_isBl) rel_is ha hb (nomark _)
theorem q_isNot {a b : Expr} {pos : Pos} {da db : DE} {fa fb : Bool} (ha : PE X a (L X.K W fa da)) (hb : PE X b (L X.K W fb db)) : PE X (.Compare a [.IsNot] [b] pos) (L X.K W true (dOp fIsNot da db)) := q_cmp (or_op op_notN op_notBl) rel_isNot ha hb (nomark _)
/-! ### ==, != of data -/
mutual
def py : D → PyData
  | .bl b => .bool b
  | .int i => .int i
  | .str x => .str x
  | .tup l => .tuple (pyL l)
  | .lst l => .list (pyL l)
  | _ => .none
def pyL : List D → List PyData
  | [] => []
  | d :: r => py d :: pyL r
end
mutual
def okD : D → Bool
  | .non => true
  | .bl _ => true
  | .int _ => true
  | .str _ => true
  | .tup l => okL l
  | .lst l => okL l
  | _ => false
def okL : List D → Bool
  | [] => true
  | d :: r => okD d && okL r
end
mutual
theorem dp_of {K : PySem.W.Frag} {H : Hp} : ∀ {v : V} {d : D}, Rep K H v d → okD d = true → Dp K H v (py d)
  | _, _, .non, _ => .non
  | _, _, .bl b, _ => .bl b
  | _, _, .int i, _ => .int i
  | _, _, .str x, _ => .str x
  | _, _, .tup h r, o => .tup h (dpL_of r o)
  | _, _, .lst h r, o => .lst (.inl (.inl h)) (dpL_of r o)
  | _, _, .ty _, o => nomatch o
  | _, _, .dic _ _ _, o => nomatch o
  | _, _, .draw _ _, o => nomatch o
  | _, _, .scr _, o => nomatch o
  | _, _, .obj _, o => nomatch o
  | _, _, .exc _ _ _, o => nomatch o
  | _, _, .clo _, o => nomatch o
  | _, _, .drawl _, o => nomatch o
theorem dpL_of {K : PySem.W.Frag} {H : Hp} : ∀ {vs : List V} {ds : List D}, RepL K H vs ds → okL ds = true → DpAll K H vs (pyL ds)
  | _, _, .nil, _ => .nil
  | _, _, .cons h r, o => .cons (dp_of h (Bool.and_eq_true_iff.mp o).1) (dpL_of r (Bool.and_eq_true_iff.mp o).2)
end
theorem dp_val {K : PySem.W.Frag} {B H : Hp} {v : V} {x : Val} (k : Kp B H) (r : RepV K B H v x) (o : okD x.d = true) : Dp K H v (py x.d) := by
  cases x with
  | dat d => exact dp_of (Rep.mono k r) o
  | tmp c =>
    cases c with
    | dic _ => cases o
    | lst ds =>
      obtain ⟨p, rfl, n, vs, h, r⟩ := r
      exact .lst (.inl (.inl h)) (dpL_of (r.mono k) o)
/-- what == asks of data: no dicts and the like, not too deep -/
def eqOk (d : D) : Bool := okD d && SeqAt.shaped (py d)
/-- == of data -/
def eqd (a b : D) : Bool := PyData.eqv (py a) (py b)
def fEq : F2 := fun x y P => (eqOk x.d = true ∧ eqOk y.d = true) ∧ P (.dat (.bl (eqd x.d y.d)))
def fNe : F2 := fun x y P => (eqOk x.d = true ∧ eqOk y.d = true) ∧ P (.dat (.bl (!eqd x.d y.d)))
theorem rel_eq : RelR X.K (rEqD X.K) fEq := by
  intro B H x y vx vy P Q k rx ry h a
  obtain ⟨⟨o1, o2⟩, p⟩ := h
  have o1 := Bool.and_eq_true_iff.mp o1
  have o2 := Bool.and_eq_true_iff.mp o2
  exact ⟨py vx.d, py vy.d, dp_val k rx o1.1, dp_val k ry o2.1, o1.2, o2.2, a.dat k (.bl _) p⟩
theorem rel_ne : RelR X.K (rNeD X.K) fNe := by
  intro B H x y vx vy P Q k rx ry h a
  obtain ⟨⟨o1, o2⟩, p⟩ := h
  have o1 := Bool.and_eq_true_iff.mp o1
  have o2 := Bool.and_eq_true_iff.mp o2
  exact ⟨py vx.d, py vy.d, dp_val k rx o1.1, dp_val k ry o2.1, o1.2, o2.2, a.dat k (.bl _) p⟩
theorem q_eq {a b : Expr} {pos : Pos} {da db : DE} {fa fb : Bool} (hu : X.A.units + 64 < cLine) (ha : PE X a (L X.K W fa da)) (hb : PE X b (L X.K W fb db)) : PE X (.Compare a [.Eq] [b] pos) (L X.K W true (dOp fEq da db)) := q_cmp (op_eqD hu) rel_eq ha hb (nomark _)
theorem q_ne {a b : Expr} {pos : Pos} {da db : DE} {fa fb : Bool} (hu : X.A.units + 64 < cLine) (ha : PE X a (L X.K W fa da)) (hb : PE X b (L X.K W fb db)) : PE X (.Compare a [.NotEq] [b] pos) (L X.K W true (dOp fNe da db)) := q_cmp (op_neD hu) rel_ne ha hb (nomark _)
/-! ### in, not in -/
theorem flat_v {d : D} (h : flatD d = true) : flatV (dV d) = true := by cases d <;> first | rfl | cases h
theorem flat_l {K : PySem.W.Frag} {B : Hp} : ∀ {vs : List V} {ds : List D}, RepL K B vs ds → ds.all flatD = true → vs = ds.map dV
  | _, _, .nil, _ => rfl
  | _, _, .cons h r, o => by
    rw [List.all_cons] at o
    have o := Bool.and_eq_true_iff.mp o
    rw [List.map_cons, ← flat_rep h o.1, ← flat_l r o.2]
theorem flat_all {ds : List D} (o : ds.all flatD = true) : (ds.map dV).all flatV = true := by
  rw [List.all_map]
  refine List.all_eq_true.mpr fun d hd => ?_
  exact flat_v (List.all_eq_true.mp o d hd)
/-- x in ds, flat things -/
def inD (x : D) (ds : List D) : Bool := inV (dV x) (ds.map dV)
def rInU (K : PySem.W.Frag) (neg : Bool) : R2 := fun x y H Q => rIn K neg x y H Q ∨ ∃ (c : Nat) (z : Str), x = .str ⟨#[c]⟩ ∧ y = .str z ∧ Q (.bl (if neg then !decide (c ∈ z.cps.toList) else decide (c ∈ z.cps.toList))) H
def fInD (neg : Bool) (P : Val → Prop) (x : D) : D → Prop
  | .lst l => (flatD x = true ∧ l.all flatD = true) ∧ P (.dat (.bl (if neg then !inD x l else inD x l)))
  | .tup l => (flatD x = true ∧ l.all flatD = true) ∧ P (.dat (.bl (if neg then !inD x l else inD x l)))
  | .str z => ∃ c, x = .str ⟨#[c]⟩ ∧ P (.dat (.bl (if neg then !decide (c ∈ z.cps.toList) else decide (c ∈ z.cps.toList))))
  | _ => False
def fIn (neg : Bool) : F2 := fun x y P => fInD neg P x.d y.d
theorem op_inU : OpR X (compareOp .In) (rInU X.K false) := or_op op_in_seq fun pins s t H x y v u Q I rx ry ⟨c, z, e1, e2, q⟩ => op_in_sign pins s t H x y v u Q I rx ry ⟨c, z, e1, e2, q⟩
theorem op_ninU : OpR X (compareOp .NotIn) (rInU X.K true) := or_op op_notIn_seq fun pins s t H x y v u Q I rx ry ⟨c, z, e1, e2, q⟩ => op_notIn_sign pins s t H x y v u Q I rx ry ⟨c, z, e1, e2, q⟩
theorem flat_val {K : PySem.W.Frag} {B H : Hp} {v : V} {x : Val} (r : RepV K B H v x) (h : flatD x.d = true) : v = dV x.d := by
  cases x with
  | dat d => exact flat_rep r h
  | tmp c => cases c <;> cases h
theorem rel_in {neg : Bool} : RelR X.K (rInU X.K neg) (fIn neg) := by
  intro B H x y vx vy P Q k rx ry h a
  unfold fIn fInD at h
  split at h
  · rename_i l e
    obtain ⟨⟨o1, o2⟩, h⟩ := h
    obtain ⟨p, vs, rfl, hp, r⟩ := rv_lst k ry e
    have ev := flat_l r o2
    have ex := flat_val rx o1
    subst ev ex
    exact .inl ⟨p, _, rfl, .inl (.inl (.inl hp)), flat_v o1, flat_all o2, a.dat k (.bl _) h⟩
  · rename_i l e
    obtain ⟨⟨o1, o2⟩, h⟩ := h
    obtain ⟨p, vs, rfl, _, hp, r⟩ := rv_tup k ry e
    have ev := flat_l r o2
    have ex := flat_val rx o1
    subst ev ex
    exact .inl ⟨p, _, rfl, .inr hp, flat_v o1, flat_all o2, a.dat k (.bl _) h⟩
  · rename_i z e
    obtain ⟨c, e1, h⟩ := h
    exact .inr ⟨c, z, rv_str rx e1, rv_str ry e, a.dat k (.bl _) h⟩
  · exact h.elim
theorem q_in {a b : Expr} {pos : Pos} {da db : DE} {fa fb : Bool} (ha : PE X a (L X.K W fa da)) (hb : PE X b (L X.K W fb db)) (hm : behindInMarks .In b = false := by rfl) : PE X (.Compare a [.In] [b] pos) (L X.K W true (dOp (fIn false) da db)) := q_cmp op_inU rel_in ha hb hm
theorem q_notIn {a b : Expr} {pos : Pos} {da db : DE} {fa fb : Bool} (ha : PE X a (L X.K W fa da)) (hb : PE X b (L X.K W fb db)) (hm : behindInMarks .NotIn b = false := by rfl) : PE X (.Compare a [.NotIn] [b] pos) (L X.K W true (dOp (fIn true) da db)) := q_cmp op_ninU rel_in ha hb hm
/-! ### chains of two comparisons -/
/-- one of two, by a truth -/
def ifB (c : Bool) (A B : Prop) : Prop := if c = true then A else B
theorem ifB_of {c : Bool} {A B : Prop} (h1 : c = true → A) (h2 : c = false → B) : ifB c A B := by
  cases c with
  | true => exact h1 rfl
  | false => exact h2 rfl
theorem ifB_dec {p : Prop} [Decidable p] {A B : Prop} (h1 : p → A) (h2 : ¬ p → B) : ifB (decide p) A B :=
  ifB_of (fun h => h1 (of_decide_eq_true h)) (fun h => h2 (of_decide_eq_false h))
theorem ifB_T {c : Bool} {A B : Prop} (h : c = true) (a : A) : ifB c A B := ifB_of (fun _ => a) fun z => by rw [h] at z; cases z
theorem ifB_F {c : Bool} {A B : Prop} (h : c = false) (b : B) : ifB c A B := ifB_of (fun z => by rw [h] at z; cases z) fun _ => b
/-- a truth -/
def asB (P : Bool → Prop) : D → Prop
  | .bl b => P b
  | _ => False
theorem asB_elim {P : Bool → Prop} {d : D} (h : asB P d) : ∃ b, d = .bl b ∧ P b := by
  cases d <;> first | exact ⟨_, rfl, h⟩ | exact h.elim
def dChain (f g : F2) (da db dc : DE) : DE := fun xc r P => da xc r fun x => db xc r fun y => f x y fun z => asB (fun k => ifB k (dc xc r fun w => g y w P) (P (.dat (.bl false)))) z.d
theorem l_chain {r1 r2 : R2} {f g : F2} {da db dc : DE} {fa fb fc : Bool} (h1 : RelR X.K r1 f) (h2 : RelR X.K r2 g) (s : L2.St) (H : Hp) (Q : VK) (h : L X.K W true (dChain f g da db dc) s H Q) :
    tChain r1 r2 (L X.K W fa da) (L X.K W fb db) (L X.K W fc dc) s H Q := by
  obtain ⟨B, r, xc, P, k, en, h, hx, hq⟩ := h
  refine ⟨B, r, xc, _, k, en, h, hx, fun x vx B1h B1 s1 rx _ q1 => ?_⟩
  refine ⟨B1, r, xc, _, s1.sub, en.step s1, q1, fun cls d e H' B' st => hx cls d e H' B' (s1.trans st), fun y vy H2 B2 s2 ry _ q2 => ?_⟩
  refine h1 B2 H2 x y vx vy _ _ s2.sub (rx.step s2) ry q2 fun z vz H3 B3 s3 rz _ q3 => ?_
  obtain ⟨kk, e, q3⟩ := asB_elim q3
  · refine ⟨kk, rv_bl rz e, ?_⟩
    have s13 := (s1.trans s2).trans s3
    cases kk with
    | true =>
      unfold ifB at q3; rw [if_pos rfl] at q3 ⊢
      refine ⟨B3, r, xc, _, s3.sub, en.step s13, q3, fun cls d e H' B' st => hx cls d e H' B' (s13.trans st), fun w vw H4 B4 s4 rw4 _ q4 => ?_⟩
      exact h2 B4 H4 y w vy vw _ _ s4.sub ((ry.step s3).step s4) rw4 q4 fun v z' H5 B5 s5 rv fr p => hq v z' H5 B5 ((s13.trans s4).trans s5) rv (fun _ => (fr.back s4).back s13) p
    | false =>
      unfold ifB at q3; rw [if_neg Bool.false_ne_true] at q3 ⊢
      exact hq _ (.dat (.bl false)) H3 B3 s13 (Rep.bl false) (fun _ => Fr.dat) q3
theorem q_chain {a b c : Expr} {op op' : CmpOp} {pos : Pos} {r1 r2 : R2} {f g : F2} {da db dc : DE} {fa fb fc : Bool} (o1 : OpR X (compareOp op) r1) (o2 : OpR X (compareOp op') r2) (h1 : RelR X.K r1 f) (h2 : RelR X.K r2 g)
    (ha : PE X a (L X.K W fa da)) (hb : PE X b (L X.K W fb db)) (hc : PE X c (L X.K W fc dc)) (hm : lastMarks [op, op'] [b, c] = false := by with_unfolding_all rfl) :
    PE X (.Compare a [op, op'] [b, c] pos) (L X.K W true (dChain f g da db dc)) := imE (pe_chain o1 o2 ha hb hc hm) (l_chain h1 h2)
theorem q_le_le {a b c : Expr} {pos : Pos} {da db dc : DE} {fa fb fc : Bool} (ha : PE X a (L X.K W fa da)) (hb : PE X b (L X.K W fb db)) (hc : PE X c (L X.K W fc dc)) (hm : lastMarks [.LtE, .LtE] [b, c] = false := by with_unfolding_all rfl) :
    PE X (.Compare a [.LtE, .LtE] [b, c] pos) (L X.K W true (dChain fLe fLe da db dc)) := q_chain op_le op_le (rel_I0 (fun _ _ => rfl) fun _ _ => rfl) (rel_I0 (fun _ _ => rfl) fun _ _ => rfl) ha hb hc hm
theorem q_le_lt {a b c : Expr} {pos : Pos} {da db dc : DE} {fa fb fc : Bool} (ha : PE X a (L X.K W fa da)) (hb : PE X b (L X.K W fb db)) (hc : PE X c (L X.K W fc dc)) (hm : lastMarks [.LtE, .Lt] [b, c] = false := by with_unfolding_all rfl) :
    PE X (.Compare a [.LtE, .Lt] [b, c] pos) (L X.K W true (dChain fLe fLt da db dc)) := q_chain op_le op_lt (rel_I0 (fun _ _ => rfl) fun _ _ => rfl) (rel_I0 (fun _ _ => rfl) fun _ _ => rfl) ha hb hc hm
/-! ### tests -/
/-- a value's truth -/
def fTruD (P : Bool → Prop) : D → Prop
  | .non => P false
  | .bl b => P b
  | .int i => P (i != 0)
  | .str y => y.length ≤ sizeLine ∧ P ((y.length : Int) != 0)
  | .tup l => P (!l.isEmpty)
  | .lst l => P (!l.isEmpty)
  | .dic l => P (!l.isEmpty)
  | .scr l => P (!l.isEmpty)
  | _ => False
def fTru (x : Val) (P : Bool → Prop) : Prop := fTruD P x.d
/-- an expression's value that is a truth -/
def dB (de : DE) : DT := fun xc r P => de xc r fun x => asB P x.d
def dTru (de : DE) : DT := fun xc r P => de xc r fun x => fTru x P
theorem RepL.isEmpty {K : PySem.W.Frag} {B : Hp} {vs : List V} {ds : List D} (r : RepL K B vs ds) : vs.isEmpty = ds.isEmpty := by cases r <;> rfl
theorem RepK.isEmpty {K : PySem.W.Frag} {B : Hp} {vs : List (Key × V)} {ds : List (Key × D)} (r : RepK K B vs ds) : vs.isEmpty = ds.isEmpty := by cases r <;> rfl
theorem l_B {de : DE} {fa : Bool} (s : L2.St) (H : Hp) (Q : Bool → Hp → Prop) (h : LT X.K W (dB de) s H Q) : tB (L X.K W fa de) s H Q := by
  obtain ⟨B, r, xc, P, k, en, h, hx, hq⟩ := h
  refine ⟨B, r, xc, _, k, en, h, hx, fun x vx H1 B1 s1 rx _ q => ?_⟩
  obtain ⟨b, e, q⟩ := asB_elim q
  exact ⟨b, rv_bl rx e, hq b H1 B1 s1 q⟩
theorem q_test {e : Expr} {de : DE} {fa : Bool} (h : PE X e (L X.K W fa de)) (he : ∀ whole, isTrue e X.env whole = (do let v ← whole; standAt e.pos; holding [v] (truthy v)) := by intro _; rfl) : PT X e (LT X.K W (dB de)) := imT (pt_val h he) l_B
theorem qt_cmp {a b : Expr} {op : CmpOp} {pos : Pos} {rr : R2} {f : F2} {da db : DE} {fa fb : Bool} (ho : OpR X (compareOp op) rr) (hr : RelR X.K rr f) (ha : PE X a (L X.K W fa da)) (hb : PE X b (L X.K W fb db)) (hm : behindInMarks op b = false) :
    PT X (.Compare a [op] [b] pos) (LT X.K W (dB (dOp f da db))) := imT (pt_cmpR ho ha hb hm) fun s H Q h => l_op hr s H _ (l_B (fa := true) s H Q h)
theorem qt_chain {a b c : Expr} {op op' : CmpOp} {pos : Pos} {r1 r2 : R2} {f g : F2} {da db dc : DE} {fa fb fc : Bool} (o1 : OpR X (compareOp op) r1) (o2 : OpR X (compareOp op') r2) (h1 : RelR X.K r1 f) (h2 : RelR X.K r2 g)
    (ha : PE X a (L X.K W fa da)) (hb : PE X b (L X.K W fb db)) (hc : PE X c (L X.K W fc dc)) (hm : lastMarks [op, op'] [b, c] = false := by with_unfolding_all rfl) :
    PT X (.Compare a [op, op'] [b, c] pos) (LT X.K W (dB (dChain f g da db dc))) := imT (pt_chain o1 o2 ha hb hc hm) fun s H Q h => l_chain h1 h2 s H _ (l_B (fa := true) s H Q h)
section
variable {a b : Expr} {pos : Pos} {da db : DE} {fa fb : Bool} (ha : PE X a (L X.K W fa da)) (hb : PE X b (L X.K W fb db))
include ha hb
theorem qt_lt : PT X (.Compare a [.Lt] [b] pos) (LT X.K W (dB (dOp fLt da db))) := qt_cmp op_lt (rel_I0 (fun _ _ => rfl) fun _ _ => rfl) ha hb (nomark _)
theorem qt_le : PT X (.Compare a [.LtE] [b] pos) (LT X.K W (dB (dOp fLe da db))) := qt_cmp op_le (rel_I0 (fun _ _ => rfl) fun _ _ => rfl) ha hb (nomark _)
theorem qt_gt : PT X (.Compare a [.Gt] [b] pos) (LT X.K W (dB (dOp fGt da db))) := qt_cmp op_gt (rel_I0 (fun _ _ => rfl) fun _ _ => rfl) ha hb (nomark _)
theorem qt_ge : PT X (.Compare a [.GtE] [b] pos) (LT X.K W (dB (dOp fGe da db))) := qt_cmp op_ge (rel_I0 (fun _ _ => rfl) fun _ _ => rfl) ha hb (nomark _)
theorem qt_is : PT X (.Compare a [.Is] [b] pos) (LT X.K W (dB (dOp fIs da db))) := qt_cmp (or_op op_isN op_isBl) rel_is ha hb (nomark _)
theorem qt_isNot : PT X (.Compare a [.IsNot] [b] pos) (LT X.K W (dB (dOp fIsNot da db))) := qt_cmp (or_op op_notN op_notBl) rel_isNot ha hb (nomark _)
theorem qt_eq (hu : X.A.units + 64 < cLine) : PT X (.Compare a [.Eq] [b] pos) (LT X.K W (dB (dOp fEq da db))) := qt_cmp (op_eqD hu) rel_eq ha hb (nomark _)
theorem qt_ne (hu : X.A.units + 64 < cLine) : PT X (.Compare a [.NotEq] [b] pos) (LT X.K W (dB (dOp fNe da db))) := qt_cmp (op_neD hu) rel_ne ha hb (nomark _)
theorem qt_in (hm : behindInMarks .In b = false := by rfl) : PT X (.Compare a [.In] [b] pos) (LT X.K W (dB (dOp (fIn false) da db))) := qt_cmp op_inU rel_in ha hb hm
theorem qt_notIn (hm : behindInMarks .NotIn b = false := by rfl) : PT X (.Compare a [.NotIn] [b] pos) (LT X.K W (dB (dOp (fIn true) da db))) := qt_cmp op_ninU rel_in ha hb hm
theorem qt_le_le {c : Expr} {dc : DE} {fc : Bool} (hc : PE X c (L X.K W fc dc)) (hm : lastMarks [.LtE, .LtE] [b, c] = false := by with_unfolding_all rfl) : PT X (.Compare a [.LtE, .LtE] [b, c] pos) (LT X.K W (dB (dChain fLe fLe da db dc))) :=
  qt_chain op_le op_le (rel_I0 (fun _ _ => rfl) fun _ _ => rfl) (rel_I0 (fun _ _ => rfl) fun _ _ => rfl) ha hb hc hm
theorem qt_le_lt {c : Expr} {dc : DE} {fc : Bool} (hc : PE X c (L X.K W fc dc)) (hm : lastMarks [.LtE, .Lt] [b, c] = false := by with_unfolding_all rfl) : PT X (.Compare a [.LtE, .Lt] [b, c] pos) (LT X.K W (dB (dChain fLe fLt da db dc))) :=
  qt_chain op_le op_lt (rel_I0 (fun _ _ => rfl) fun _ _ => rfl) (rel_I0 (fun _ _ => rfl) fun _ _ => rfl) ha hb hc hm
end
theorem q_truth {e : Expr} {de : DE} {fa : Bool} (h : PE X e (L X.K W fa de)) (he : ∀ whole, isTrue e X.env whole = (do let v ← whole; standAt e.pos; holding [v] (truthy v)) := by intro _; rfl) : PT X e (LT X.K W (dTru de)) := by
  refine imT (pt_truth h he) fun s H Q ⟨B, r, xc, P, k, en, h, hx, hq⟩ => ⟨B, r, xc, _, k, en, h, hx, fun x vx H1 B1 s1 rx _ q => ?_⟩
  unfold fTru fTruD at q
  split at q
  · rename_i e
    exact ⟨false, by rw [rv_non rx e]; rfl, hq _ H1 B1 s1 q⟩
  · rename_i b e
    exact ⟨b, by rw [rv_bl rx e]; rfl, hq _ H1 B1 s1 q⟩
  · rename_i i e
    exact ⟨i != 0, by rw [rv_int rx e]; rfl, hq _ H1 B1 s1 q⟩
  · rename_i y e
    exact ⟨(y.length : Int) != 0, by rw [rv_str rx e]; exact ⟨q.1, rfl⟩, hq _ H1 B1 s1 q.2⟩
  · rename_i l e
    obtain ⟨p, vs, rfl, _, hp, rr⟩ := rv_tup s1.sub rx e
    exact ⟨!l.isEmpty, .inr (.inl ⟨vs, hp, by rw [rr.isEmpty]⟩), hq _ H1 B1 s1 q⟩
  · rename_i l e
    obtain ⟨p, vs, rfl, hp, rr⟩ := rv_lst s1.sub rx e
    exact ⟨!l.isEmpty, .inl ⟨vs, .inl (.inl hp), by rw [rr.isEmpty]⟩, hq _ H1 B1 s1 q⟩
  · rename_i l e
    obtain ⟨p, vs, rfl, hp, rr⟩ := rv_dic s1.sub rx e
    exact ⟨!l.isEmpty, .inr (.inr ⟨vs, hp, by rw [rr.isEmpty]⟩), hq _ H1 B1 s1 q⟩
  · rename_i l e
    obtain ⟨p, rfl, hp⟩ := rv_scr s1.sub rx e
    exact ⟨!l.isEmpty, .inl ⟨_, hp, by cases l <;> rfl⟩, hq _ H1 B1 s1 q⟩
  · exact q.elim
def dAnd (ta tb : DT) : DT := fun xc r P => ta xc r fun c => ifB c (tb xc r P) (P false)
def dOr (ta tb : DT) : DT := fun xc r P => ta xc r fun c => ifB c (P true) (tb xc r P)
def dNot (ta : DT) : DT := fun xc r P => ta xc r fun c => P (!c)
theorem l_and {ta tb : DT} (s : L2.St) (H : Hp) (Q : Bool → Hp → Prop) (h : LT X.K W (dAnd ta tb) s H Q) : tAnd (LT X.K W ta) (LT X.K W tb) s H Q := by
  obtain ⟨B, r, xc, P, k, en, h, hx, hq⟩ := h
  refine ⟨B, r, xc, _, k, en, h, hx, fun c H1 B1 s1 q => ?_⟩
  cases c with
  | true =>
    unfold ifB at q; rw [if_pos rfl] at q ⊢
    exact ⟨B1, r, xc, P, s1.sub, en.step s1, q, fun cls d e H' B' st => hx cls d e H' B' (s1.trans st), fun b H2 B2 s2 p => hq b H2 B2 (s1.trans s2) p⟩
  | false =>
    unfold ifB at q; rw [if_neg Bool.false_ne_true] at q ⊢
    exact hq _ H1 B1 s1 q
theorem l_or {ta tb : DT} (s : L2.St) (H : Hp) (Q : Bool → Hp → Prop) (h : LT X.K W (dOr ta tb) s H Q) : tOr (LT X.K W ta) (LT X.K W tb) s H Q := by
  obtain ⟨B, r, xc, P, k, en, h, hx, hq⟩ := h
  refine ⟨B, r, xc, _, k, en, h, hx, fun c H1 B1 s1 q => ?_⟩
  cases c with
  | true =>
    unfold ifB at q; rw [if_pos rfl] at q ⊢
    exact hq _ H1 B1 s1 q
  | false =>
    unfold ifB at q; rw [if_neg Bool.false_ne_true] at q ⊢
    exact ⟨B1, r, xc, P, s1.sub, en.step s1, q, fun cls d e H' B' st => hx cls d e H' B' (s1.trans st), fun b H2 B2 s2 p => hq b H2 B2 (s1.trans s2) p⟩
theorem q_not {e : Expr} {pos : Pos} {ta : DT} (h : PT X e (LT X.K W ta)) : PT X (.UnaryOp .Not e pos) (LT X.K W (dNot ta)) := by
  refine imT (pt_not h) fun s H Q ⟨B, r, xc, P, k, en, h, hx, hq⟩ => ⟨B, r, xc, _, k, en, h, hx, fun c H1 B1 s1 q => hq _ H1 B1 s1 q⟩
theorem qw_and {a b : Expr} {rest : List Expr} {pos : Pos} {ta tb : DT} (ha : PT X a (LT X.K W ta)) (hb : PW X (.BoolOp .And (b :: rest) pos) (LT X.K W tb)) : PW X (.BoolOp .And (a :: b :: rest) pos) (LT X.K W (dAnd ta tb)) := imW (pw_and ha hb) l_and
theorem qw_or {a b : Expr} {rest : List Expr} {pos : Pos} {ta tb : DT} (ha : PT X a (LT X.K W ta)) (hb : PW X (.BoolOp .Or (b :: rest) pos) (LT X.K W tb)) : PW X (.BoolOp .Or (a :: b :: rest) pos) (LT X.K W (dOr ta tb)) := imW (pw_or ha hb) l_or
/-! ### and, or, not as values; a if c else b -/
def dAndV (da db : DE) : DE := fun xc r P => da xc r fun x => asB (fun c => ifB c (db xc r P) (P (.dat (.bl false)))) x.d
def dOrV (da db : DE) : DE := fun xc r P => da xc r fun x => asB (fun c => ifB c (P (.dat (.bl true))) (db xc r P)) x.d
theorem q_andV {a b : Expr} {rest : List Expr} {pos : Pos} {da db : DE} {fa : Bool} (ha : PE X a (L X.K W fa da)) (hb : PE X (.BoolOp .And (b :: rest) pos) (L X.K W true db)) : PE X (.BoolOp .And (a :: b :: rest) pos) (L X.K W true (dAndV da db)) := by
  refine imE (pe_and ha hb) fun s H Q ⟨B, r, xc, P, k, en, h, hx, hq⟩ => ⟨B, r, xc, _, k, en, h, hx, fun x vx H1 B1 s1 rx _ q => ?_⟩
  obtain ⟨c, e, q⟩ := asB_elim q
  · refine ⟨c, rv_bl rx e, ?_⟩
    cases c with
    | true =>
      unfold ifB at q; rw [if_pos rfl] at q ⊢
      exact ⟨B1, r, xc, P, s1.sub, en.step s1, q, fun cls d e H' B' st => hx cls d e H' B' (s1.trans st), fun v x H2 B2 s2 rv fr p => hq v x H2 B2 (s1.trans s2) rv (fun z => (fr z).back s1) p⟩
    | false =>
      unfold ifB at q; rw [if_neg Bool.false_ne_true] at q ⊢
      exact hq _ (.dat (.bl false)) H1 B1 s1 (Rep.bl false) (fun _ => Fr.dat) q
theorem q_orV {a b : Expr} {rest : List Expr} {pos : Pos} {da db : DE} {fa : Bool} (ha : PE X a (L X.K W fa da)) (hb : PE X (.BoolOp .Or (b :: rest) pos) (L X.K W true db)) : PE X (.BoolOp .Or (a :: b :: rest) pos) (L X.K W true (dOrV da db)) := by
  refine imE (pe_or ha hb) fun s H Q ⟨B, r, xc, P, k, en, h, hx, hq⟩ => ⟨B, r, xc, _, k, en, h, hx, fun x vx H1 B1 s1 rx _ q => ?_⟩
  obtain ⟨c, e, q⟩ := asB_elim q
  · refine ⟨c, rv_bl rx e, ?_⟩
    cases c with
    | true =>
      unfold ifB at q; rw [if_pos rfl] at q ⊢
      exact hq _ (.dat (.bl true)) H1 B1 s1 (Rep.bl true) (fun _ => Fr.dat) q
    | false =>
      unfold ifB at q; rw [if_neg Bool.false_ne_true] at q ⊢
      exact ⟨B1, r, xc, P, s1.sub, en.step s1, q, fun cls d e H' B' st => hx cls d e H' B' (s1.trans st), fun v x H2 B2 s2 rv fr p => hq v x H2 B2 (s1.trans s2) rv (fun z => (fr z).back s1) p⟩
theorem q_one {a : Expr} {op : BoolOp} {pos : Pos} {t : TE} (ha : PE X a t) : PE X (.BoolOp op [a] pos) t := pe_one ha
def dNotV (da : DE) : DE := fun xc r P => da xc r fun x => asB (fun c => P (.dat (.bl (!c)))) x.d
theorem q_notV {a : Expr} {pos : Pos} {da : DE} {fa : Bool} (ha : PE X a (L X.K W fa da)) : PE X (.UnaryOp .Not a pos) (L X.K W true (dNotV da)) := by
  refine imE (pe_not ha) fun s H Q ⟨B, r, xc, P, k, en, h, hx, hq⟩ => ⟨B, r, xc, _, k, en, h, hx, fun x vx H1 B1 s1 rx _ q => ?_⟩
  obtain ⟨c, e, q⟩ := asB_elim q
  exact ⟨c, rv_bl rx e, hq _ (.dat (.bl (!c))) H1 B1 s1 (Rep.bl _) (fun _ => Fr.dat) q⟩
def dIf (t : DT) (da db : DE) : DE := fun xc r P => t xc r fun c => ifB c (da xc r P) (db xc r P)
theorem q_ifExp {c a b : Expr} {pos : Pos} {t : DT} {da db : DE} {f : Bool} (hc : PT X c (LT X.K W t)) (ha : PE X a (L X.K W f da)) (hb : PE X b (L X.K W f db)) : PE X (.IfExp c a b pos) (L X.K W f (dIf t da db)) := by
  refine imE (pe_ifExp hc ha hb) fun s H Q ⟨B, r, xc, P, k, en, h, hx, hq⟩ => ⟨B, r, xc, _, k, en, h, hx, fun c H1 B1 s1 q => ?_⟩
  cases c with
  | true =>
    unfold ifB at q; rw [if_pos rfl] at q ⊢
    exact ⟨B1, r, xc, P, s1.sub, en.step s1, q, fun cls d e H' B' st => hx cls d e H' B' (s1.trans st), fun v x H2 B2 s2 rv fr p => hq v x H2 B2 (s1.trans s2) rv (fun z => (fr z).back s1) p⟩
  | false =>
    unfold ifB at q; rw [if_neg Bool.false_ne_true] at q ⊢
    exact ⟨B1, r, xc, P, s1.sub, en.step s1, q, fun cls d e H' B' st => hx cls d e H' B' (s1.trans st), fun v x H2 B2 s2 rv fr p => hq v x H2 B2 (s1.trans s2) rv (fun z => (fr z).back s1) p⟩
/-! ### a new container is shared -/
/-- a container of one's own becomes shared data -/
theorem share {K : PySem.W.Frag} {B H B' H' : Hp} {v : V} {x : Val} (s : Step B H B' H') (r : RepV K B' H' v x) (f : Fr H v x) (nd : ∀ l, x = .tmp (.dic l) → ∀ p kvs, v = .ref p → H' p = some (.dK kvs) → ¬ DrawO (.dK kvs)) : ∃ B'', Step B H B'' H' ∧ Kp B' B'' ∧ Rep K B'' v x.d := by
  cases x with
  | dat d => exact ⟨B', s, .refl _, r⟩
  | tmp c =>
    obtain ⟨p, rfl, n, w⟩ := r
    have hp := f p c rfl rfl
    obtain ⟨o, ho⟩ := w.has
    have kp : Kp B' (upd B' p o) := .new n
    have sub : Kp (upd B' p o) H' := fun a u e => by
      by_cases z : a = p
      · subst z
        rw [upd_same] at e
        cases e
        exact ⟨fun _ => ho, fun d => ⟨_, ho, .refl d⟩⟩
      · rw [upd_ne z] at e
        exact s.sub a u e
    refine ⟨upd B' p o, ⟨s.kp.trans kp, sub, fun a u e nb => ?_⟩, kp, ?_⟩
    · have ne : a ≠ p := fun z => by rw [z, hp] at e; cases e
      rw [upd_ne ne]
      exact s.out a u e nb
    · cases c with
      | lst ds =>
        obtain ⟨vs, h, r⟩ := w
        rw [ho] at h
        cases h
        exact .lst upd_same (r.mono kp)
      | dic ds =>
        obtain ⟨vs, h, r⟩ := w
        rw [ho] at h
        cases h
        exact .dic upd_same (nd ds rfl p vs rfl ho) (r.mono kp)
/-- as shared data: not for a dict that looks like a draw's -/
def Ct.safe : Ct → Prop
  | .lst _ => True
  | .dic l => ∀ a b m, l ≠ (.inr "rest", a) :: (.inr "mixed", b) :: m
def Val.safe : Val → Prop
  | .dat _ => True
  | .tmp c => c.safe
theorem safe_nd {K : PySem.W.Frag} {B H : Hp} {v : V} {x : Val} (r : RepV K B H v x) (s : x.safe) : ∀ l, x = .tmp (.dic l) → ∀ p kvs, v = .ref p → H p = some (.dK kvs) → ¬ DrawO (.dK kvs) := by
  intro l e p kvs e2 h d
  subst e
  obtain ⟨q, e3, _, kv, h2, rr⟩ := r
  rw [e2] at e3
  cases e3
  rw [h] at h2
  cases h2
  rcases d with ⟨a, b, m, e4, _⟩ | ⟨_, e4⟩
  case inr => cases e4
  cases e4
  cases rr with
  | cons h1 rr =>
    cases rr with
    | cons h2 rr => exact s _ _ _ rfl
/-- e as shared data -/
def dSh (de : DE) : DE := fun xc r P => de xc r fun x => x.safe ∧ P (.dat x.d)
theorem q_share {e : Expr} {de : DE} (h : PE X e (L X.K W true de)) : PE X e (L X.K W true (dSh de)) := by
  refine imE h fun s H Q ⟨B, r, xc, P, k, en, h, hx, hq⟩ => ⟨B, r, xc, _, k, en, h, hx, fun v x H1 B1 s1 rx fr q => ?_⟩
  obtain ⟨B2, s2, _, rp⟩ := share s1 rx (fr rfl) (safe_nd rx q.1)
  exact hq v (.dat x.d) H1 B2 s2 rp (fun _ => Fr.dat) q.2
/-! ### arguments, displays -/
def dNil : DA := fun _ _ P => P []
/-- shared data -/
def asD (P : D → Prop) : Val → Prop
  | .dat d => P d
  | .tmp _ => False
def dCons (de : DE) (da : DA) : DA := fun xc r P => de xc r fun x => asD (fun d => da xc r fun ds => P (d :: ds)) x
theorem qa_nil : PA X [] (LA X.K W dNil) := imA pa_nil fun s H Q ⟨B, r, xc, P, k, en, h, hx, hq⟩ => hq [] [] H B (.refl k) .nil h
theorem qa_cons {e : Expr} {es : List Expr} {de : DE} {da : DA} (h : PE X e (L X.K W true de)) (hr : PA X es (LA X.K W da)) (hs : starEach (e :: es) X.env = (false, eval e X.env) :: starEach es X.env := by rfl) : PA X (e :: es) (LA X.K W (dCons de da)) := by
  refine imA (pa_cons h hr hs) fun s H Q ⟨B, r, xc, P, k, en, h, hx, hq⟩ => ⟨B, r, xc, _, k, en, h, hx, fun v x H1 B1 s1 rx fr q => ?_⟩
  cases x with
  | tmp c => exact q.elim
  | dat d =>
    exact ⟨B1, r, xc, _, s1.sub, en.step s1, q, fun cls d e H' B' st => hx cls d e H' B' (s1.trans st), fun vs ds H2 B2 s2 rl p => hq (v :: vs) (d :: ds) H2 B2 (s1.trans s2) (.cons (Rep.mono s2.kp rx) rl) p⟩
def dTup (da : DA) : DE := fun xc r P => da xc r fun ds => ds.length ≤ sizeLine ∧ P (.dat (.tup ds))
def dLst (da : DA) : DE := fun xc r P => da xc r fun ds => ds.length ≤ sizeLine ∧ P (.tmp (.lst ds))
theorem q_tup {es : List Expr} {x1 : Nat} {pos : Pos} {da : DA} (h : PA X es (LA X.K W da)) : PE X (.Tuple es x1 pos) (L X.K W true (dTup da)) := by
  refine imE (pe_tup h) fun s H Q ⟨B, r, xc, P, k, en, h, hx, hq⟩ => ⟨B, r, xc, _, k, en, h, hx, fun vs ds H1 B1 s1 rl q => ⟨by rw [rl.length]; exact q.1, fun p n => ?_⟩⟩
  exact hq (.ref p) (.dat (.tup ds)) _ (upd B1 p (.tup vs)) (s1.trans (.new s1.sub n)) (.tup (.inl (.inl upd_same)) (rl.mono (Kp.new (s1.sub.none n)))) (fun _ => Fr.dat) q.2
theorem q_lst {es : List Expr} {pos : Pos} {da : DA} (h : PA X es (LA X.K W da)) : PE X (.List es pos) (L X.K W true (dLst da)) := by
  refine imE (pe_lst h) fun s H Q ⟨B, r, xc, P, k, en, h, hx, hq⟩ => ⟨B, r, xc, _, k, en, h, hx, fun vs ds H1 B1 s1 rl q => ⟨by rw [rl.length]; exact q.1, fun p n => ?_⟩⟩
  exact hq (.ref p) (.tmp (.lst ds)) _ B1 (s1.trans (.tmp s1.sub n)) ⟨p, rfl, s1.sub.none n, vs, upd_same, rl⟩ (fun _ q c e _ => by cases e; exact s1.free n) q.2
end
end Dl
/-! Dl3: statements read by data; loops, comprehensions, calls of the text's own defs. -/
namespace Dl
open PySem PySem.Spec PyProof.Rows L2
/-! ### targets -/
abbrev DG := D → DEnv → (DEnv → Prop) → Prop
/-- what is stored to: names at places of vs alone -/
def LG (K : PySem.W.Frag) (vs : List Nat) (dg : DG) : TG := fun v s H Q => ∃ B r d P, Kp B H ∧ EnvRep K B H s r ∧ Rep K B v d ∧ dg d r P ∧
  ∀ s' r', EnvRep K B H s' r' → wipe s' vs = wipe s vs → (∀ a, Owns s' r' a → Owns s r a) → P r' → Q s' H
theorem wipe_set {v : Option V} : ∀ {vs : List Nat} {s : L2.St} {i : Nat}, i ∈ vs → wipe (s.set i v) vs = wipe s vs
  | [], _, _, h => nomatch h
  | w :: vs, s, i, h => by
    show (wipe (s.set i v) vs).set w none = (wipe s vs).set w none
    by_cases z : i ∈ vs
    · rw [wipe_set z]
    · have e : i = w := by
        rcases List.mem_cons.mp h with e | e
        · exact e
        · exact absurd e z
      subst e
      have q : ∀ (l : List Nat) (s : L2.St), i ∉ l → wipe (s.set i v) l = (wipe s l).set i v := by
        intro l
        induction l with
        | nil => intro s _; rfl
        | cons a l ih =>
          intro s hn
          show (wipe (s.set i v) l).set a none = ((wipe s l).set a none).set i v
          rw [ih s fun q => hn (List.mem_cons_of_mem _ q)]
          exact List.set_comm _ _ fun q => hn (by rw [q]; exact List.mem_cons_self)
      rw [q vs s z, List.set_set]
/-- the env without some names -/
def wp (r : DEnv) : List Nat → DEnv
  | [] => r
  | v :: vs => st (wp r vs) v none
section
variable {K : PySem.W.Frag} {B H : Hp}
theorem lk_st_none {e : DEnv} {i j : Nat} {x : Val} (h : lk (st e i none) j = some x) : lk e j = some x ∧ i ≠ j := by
  by_cases z : i = j
  · subst z
    have hl := lk_lt h
    rw [st_length] at hl
    rw [lk_st_same hl] at h
    cases h
  · rw [lk_st_ne z] at h
    exact ⟨h, z⟩
theorem EnvRep.drop {s : L2.St} {r : DEnv} (e : EnvRep K B H s r) (v : Nat) : EnvRep K B H (s.set v none) (st r v none) := by
  refine ⟨by rw [List.length_set, st_length, e.len], fun i x h => ?_, fun i j c c' a h1 h2 h3 h4 => ?_⟩
  · obtain ⟨h, z⟩ := lk_st_none h
    rw [List.getElem?_set_ne z]
    exact e.at_ i x h
  · obtain ⟨h1, z1⟩ := lk_st_none h1
    obtain ⟨h2, z2⟩ := lk_st_none h2
    rw [List.getElem?_set_ne z1] at h3
    rw [List.getElem?_set_ne z2] at h4
    exact e.dis i j c c' a h1 h2 h3 h4
theorem EnvRep.wipe {s : L2.St} {r : DEnv} (e : EnvRep K B H s r) : ∀ vs : List Nat, EnvRep K B H (wipe s vs) (wp r vs)
  | [] => e
  | v :: vs => (EnvRep.wipe e vs).drop v
end
theorem Owns.set {s : L2.St} {r : DEnv} {i : Nat} {v : V} {x : Val} {a : Addr} (h : Owns (s.set i (some v)) (st r i (some x)) a) : Owns s r a ∨ (v = .ref a ∧ ∃ c, x = .tmp c) := by
  obtain ⟨j, c, h1, h2⟩ := h
  by_cases z : i = j
  · subst z
    have hl := lk_lt h1
    rw [st_length] at hl
    rw [lk_st_same hl] at h1
    by_cases hs : i < s.length
    · rw [List.getElem?_set_self hs] at h2
      cases h2
      cases h1
      exact .inr ⟨rfl, c, rfl⟩
    · rw [List.getElem?_eq_none (by rw [List.length_set]; omega)] at h2
      cases h2
  · rw [lk_st_ne z] at h1
    rw [List.getElem?_set_ne z] at h2
    exact .inl ⟨j, c, h1, h2⟩
def gN (i : Nat) : DG := fun d r P => P (st r i (some (.dat d)))
def gT2 (i j : Nat) : DG := fun d r P => match d with
  | .tup [a, b] => P (st (st r i (some (.dat a))) j (some (.dat b)))
  | _ => False
def gT3 (i j k : Nat) : DG := fun d r P => match d with
  | .tup [a, b, c] => P (st (st (st r i (some (.dat a))) j (some (.dat b))) k (some (.dat c)))
  | _ => False
section
variable {X : Cx}
theorem imG {tg : Expr} {t u : TG} (h : PG X tg t) (f : ∀ v s H Q, u v s H Q → t v s H Q) : PG X tg u := ⟨fun pins s r H x v Q I rx q => h.run pins s r H x v Q I rx (f _ _ _ _ q)⟩
theorem setD {K : PySem.W.Frag} {B H : Hp} {s : L2.St} {r : DEnv} {i : Nat} {v : V} {d : D} (e : EnvRep K B H s r) (h : Rep K B v d) : EnvRep K B H (s.set i (some v)) (st r i (some (.dat d))) ∧ ∀ a, Owns (s.set i (some v)) (st r i (some (.dat d))) a → Owns s r a :=
  ⟨e.set (x := .dat d) h fun _ _ _ z => (nomatch z), fun a o => (Owns.set o).elim id fun ⟨_, c, z⟩ => nomatch z⟩
theorem qg_name {i : Nat} {x : Str} {pos : Pos} {vs : List Nat} (hm : i ∈ vs) (hN : X.N.Nodup) (hi : X.N[i]? = some x) (hx : Loc X.env.scope x) (hf : X.fn x = true ∨ X.env.scope.names.lookup x = some .local := by first | exact .inl rfl | exact .inr rfl | assumption) :
    PG X (.Name x pos) (LG X.K vs (gN i)) := imG (pg_name hN hi hx hf) fun v s H Q ⟨B, r, d, P, k, en, rd, p, hq⟩ => by
  obtain ⟨e, o⟩ := setD (i := i) en rd
  exact hq _ _ e (wipe_set hm) o p
theorem qg_t2 {a b : Expr} {j0 : Nat} {pos : Pos} {vs : List Nat} {i j : Nat} (hc : X.calm = true) (mi : i ∈ vs) (mj : j ∈ vs) (ha : PG X a (gName i)) (hb : PG X b (gName j))
    (h1 : (assignEach [a, b] X.env).map (·.2) = assign a X.env :: (assignEach [b] X.env).map (·.2) := by rfl) (h2 : (assignEach [b] X.env).map (·.2) = assign b X.env :: (assignEach [] X.env).map (·.2) := by rfl)
    (hn : (assignEach [a, b] X.env).length = 2 := by rfl) (hst : (assignEach [a, b] X.env).findIdx? (·.1) = none := by rfl) : PG X (.Tuple [a, b] j0 pos) (LG X.K vs (gT2 i j)) := by
  refine imG (pg_tup hc (pgs_cons ha (pgs_cons hb pgs_nil h2) h1) hn hst) fun v s H Q ⟨B, r, d, P, k, en, rd, p, hq⟩ => ?_
  unfold gT2 at p
  split at p
  · rename_i x y
    cases rd with
    | tup h rl =>
      cases rl with
      | cons rx rl =>
        cases rl with
        | cons ry rl =>
          cases rl
          obtain ⟨e1, o1⟩ := setD (i := i) en rx
          obtain ⟨e2, o2⟩ := setD (i := j) e1 ry
          refine ⟨_, _, rfl, kp_t k h, rfl, _, _, rfl, _, _, rfl, rfl, hq _ _ e2 ?_ (fun a o => o1 a (o2 a o)) p⟩
          rw [wipe_set mj, wipe_set mi]
  · exact p.elim
theorem qg_t3 {a b c : Expr} {j0 : Nat} {pos : Pos} {vs : List Nat} {i j l : Nat} (hc : X.calm = true) (mi : i ∈ vs) (mj : j ∈ vs) (ml : l ∈ vs) (ha : PG X a (gName i)) (hb : PG X b (gName j)) (hcc : PG X c (gName l))
    (h1 : (assignEach [a, b, c] X.env).map (·.2) = assign a X.env :: (assignEach [b, c] X.env).map (·.2) := by rfl) (h2 : (assignEach [b, c] X.env).map (·.2) = assign b X.env :: (assignEach [c] X.env).map (·.2) := by rfl)
    (h3 : (assignEach [c] X.env).map (·.2) = assign c X.env :: (assignEach [] X.env).map (·.2) := by rfl)
    (hn : (assignEach [a, b, c] X.env).length = 3 := by rfl) (hst : (assignEach [a, b, c] X.env).findIdx? (·.1) = none := by rfl) : PG X (.Tuple [a, b, c] j0 pos) (LG X.K vs (gT3 i j l)) := by
  refine imG (pg_tup hc (pgs_cons ha (pgs_cons hb (pgs_cons hcc pgs_nil h3) h2) h1) hn hst) fun v s H Q ⟨B, r, d, P, k, en, rd, p, hq⟩ => ?_
  unfold gT3 at p
  split at p
  · rename_i x y z
    cases rd with
    | tup h rl =>
      cases rl with
      | cons rx rl =>
        cases rl with
        | cons ry rl =>
          cases rl with
          | cons rz rl =>
            cases rl
            obtain ⟨e1, o1⟩ := setD (i := i) en rx
            obtain ⟨e2, o2⟩ := setD (i := j) e1 ry
            obtain ⟨e3, o3⟩ := setD (i := l) e2 rz
            refine ⟨_, _, rfl, kp_t k h, rfl, _, _, rfl, _, _, rfl, _, _, rfl, rfl, hq _ _ e3 ?_ (fun a o => o1 a (o2 a (o3 a o))) p⟩
            rw [wipe_set ml, wipe_set mj, wipe_set mi]
  · exact p.elim
end
section
variable {X : Cx} {W : WX}
/-! ### what is walked -/
def iAny (K : PySem.W.Frag) (tl : TE) : TI := fun s H R => tl s H fun x H1 => (∃ a, x = .ref a ∧ (∃ xs, SqL K H1 a xs) ∧ R (Itl K a) H1) ∨ (∃ a, x = .ref a ∧ (∃ xs, SqT K H1 a xs) ∧ R (Itt K a) H1) ∨ ∃ y, x = .str y ∧ R (Its y) H1
theorem pi_any {tg l : Expr} {tl : TE} (hl : PE X l tl) : PI X tg l (iAny X.K tl) := by
  refine ⟨fun pins s σ H R I h => ?_⟩
  refine thn (hl.run pins s σ H _ I h) fun v s1 ⟨x, H1, I1, r1, q1⟩ => ?_
  rcases q1 with ⟨a, e, ⟨xs, hq⟩, q⟩ | ⟨a, e, ⟨xs, hq⟩, q⟩ | ⟨y, e, q⟩
  · subst e
    cases r1
    obtain ⟨its, rv, p, hz⟩ := I1.list hq
    refine wpAny_pyIter_list p.isList ?_
    refine ⟨s1.heap.objs.size, [s1.heap.objs.size], _, _, H1, rfl, I1.kept (t' := s1.toks) fun b o e => Heap.get?_push_of_some _ e, turn_list a _, ⟨_, Heap.get?_push_size _ rfl, rfl, rfl⟩, fun b hb => ?_, q⟩
    have e : b = s1.heap.objs.size := by simpa using hb
    subst e
    exact I1.fpOk (Nat.le_refl _) (I1.hok.fresh (Nat.le_refl _))
  · subst e
    cases r1
    obtain ⟨its, rv, p, hz⟩ := I1.tuple hq
    refine wpAny_pyIter_tuple (show s1.heap.IsTuple a its.toArray from p) ?_
    refine ⟨s1.heap.objs.size, [s1.heap.objs.size], _, _, H1, rfl, I1.kept (t' := s1.toks) fun b o e => Heap.get?_push_of_some _ e, turn_tuple a _, ⟨_, Heap.get?_push_size _ rfl, rfl, rfl⟩, fun b hb => ?_, q⟩
    have e : b = s1.heap.objs.size := by simpa using hb
    subst e
    exact I1.fpOk (Nat.le_refl _) (I1.hok.fresh (Nat.le_refl _))
  · subst e
    obtain ⟨t, rfl⟩ := r1
    cases ha : y.cps.all (· < 128)
    · exact wpAny_pyIter_wide ha (pi_one (tk := s1.toks) I1 _ (turn_str _ y t "str_iterator" (.inr rfl)) ⟨_, Heap.get?_push_size _ rfl, rfl, rfl⟩ q)
    · exact wpAny_pyIter_ascii ha (pi_one (tk := s1.toks) I1 _ (turn_str _ y t "str_ascii_iterator" (.inl rfl)) ⟨_, Heap.get?_push_size _ rfl, rfl, rfl⟩ q)
/-- the things that one walks over -/
def fItD (P : List D → Prop) : D → Prop
  | .lst l => P l
  | .tup l => P l
  | .scr l => P (l.map D.int)
  | .str y => P (y.cps.toList.map fun c => D.str ⟨#[c]⟩)
  | _ => False
def fIt (x : Val) (P : List D → Prop) : Prop := fItD P x.d
def dIt (de : DE) : DI := fun xc r P => de xc r fun x => fIt x P
theorem itok_list {K : PySem.W.Frag} {a : Addr} {vs : List V} {ds : List D} {B H : Hp} {src : Addr → Prop} (stay : ∀ B2 H2, Kp B B2 → Kp B2 H2 → (∀ p o, src p → H p = some o → H2 p = some o ∧ B2 p = none) → SqL K H2 a vs) (r : RepL K B vs ds) : ItOk K (Itl K a) ds B H src := by
  intro B2 H2 i k1 k2 hs
  have q := stay B2 H2 k1 k2 hs
  refine ⟨fun d hd => ?_, fun hn => ⟨vs, q, by rw [r.length]; exact Nat.le_of_eq hn⟩⟩
  obtain ⟨v, hv, rv⟩ := r.get hd
  refine ⟨⟨vs, v, q, hv⟩, fun x H3 y => ?_⟩
  obtain ⟨e, y⟩ := y
  subst e
  have z := y vs q
  rw [hv] at z
  cases z
  exact ⟨B2, .refl k2, rv.mono k1⟩
theorem itok_tup {K : PySem.W.Frag} {a : Addr} {vs : List V} {ds : List D} {B H : Hp} {src : Addr → Prop} (h : SqT K B a vs) (r : RepL K B vs ds) : ItOk K (Itt K a) ds B H src := by
  intro B2 H2 i k1 k2 hs
  have q := kp_t k2 (kp_t k1 h)
  refine ⟨fun d hd => ?_, fun hn => ⟨vs, q, by rw [r.length]; exact Nat.le_of_eq hn⟩⟩
  obtain ⟨v, hv, rv⟩ := r.get hd
  refine ⟨⟨vs, v, q, hv⟩, fun x H3 y => ?_⟩
  obtain ⟨e, y⟩ := y
  subst e
  have z := y vs q
  rw [hv] at z
  cases z
  exact ⟨B2, .refl k2, rv.mono k1⟩
theorem itok_str {K : PySem.W.Frag} {y : Str} {B H : Hp} {src : Addr → Prop} : ItOk K (Its y) (y.cps.toList.map fun c => D.str ⟨#[c]⟩) B H src := by
  intro B2 H2 i k1 k2 hs
  refine ⟨fun d hd => ?_, fun hn => ?_⟩
  · rw [List.getElem?_map, Array.getElem?_toList] at hd
    cases e : y.cps[i]? with
    | none => rw [e] at hd; cases hd
    | some c =>
      rw [e] at hd
      cases hd
      refine ⟨(Array.getElem?_eq_some_iff.mp e).1, fun x H3 z => ?_⟩
      obtain ⟨e2, c', e3, rfl⟩ := z
      subst e2
      rw [e] at e3
      cases e3
      exact ⟨B2, .refl k2, .str _⟩
  · rw [List.length_map, Array.length_toList] at hn
    exact Nat.le_of_eq hn
theorem qi_any {tg e : Expr} {de : DE} (h : PE X e (L X.K W true de)) : PI X tg e (LI X.K W (dIt de)) := by
  refine imI (pi_any h) fun s H R ⟨B, r, xc, P, k, en, h, hx, hq⟩ => ⟨B, r, xc, _, k, en, h, hx, fun x vx H1 B1 s1 rx fr q => ?_⟩
  unfold fIt fItD at q
  split at q
  · rename_i l e
    cases vx with
    | dat d =>
      cases (show d = .lst l from e)
      cases rx with
      | lst hb rl =>
        exact .inl ⟨_, rfl, ⟨_, .inl (.inl ((s1.sub _ _ hb).1 DrawO.lst))⟩, hq _ l H1 B1 (fun _ => False) s1 (fun _ z => z.elim)
          (itok_list (fun B2 H2 k1 k2 _ => kp_l k2 (kp_l k1 (.inl (.inl hb)))) rl) q⟩
    | tmp c =>
      cases c with
      | dic _ => cases e
      | lst es =>
        cases (show D.lst es = D.lst l from e)
        obtain ⟨p, rfl, n, vs, hp, rl⟩ := rx
        exact .inl ⟨_, rfl, ⟨_, .inl (.inl hp)⟩, hq _ l H1 B1 (fun a => a = p) s1 (fun a z => by subst z; exact ⟨fr rfl _ _ rfl rfl, n, _, hp, fun _ z => nomatch z⟩)
          (itok_list (fun B2 H2 k1 k2 st => .inl (.inl (st p _ rfl hp).1)) rl) q⟩
  · rename_i l e
    obtain ⟨p, vs, rfl, hb, hp, rl⟩ := rv_tup s1.sub rx e
    exact .inr (.inl ⟨_, rfl, ⟨_, hp⟩, hq _ l H1 B1 (fun _ => False) s1 (fun _ z => z.elim) (itok_tup hb rl) q⟩)
  · rename_i l e
    cases vx with
    | tmp c => cases c <;> cases e
    | dat d =>
      cases (show d = .scr l from e)
      cases rx with
      | scr hb => exact .inl ⟨_, rfl, ⟨_, kp_l s1.sub hb⟩, hq _ _ H1 B1 (fun _ => False) s1 (fun _ z => z.elim) (itok_list (fun B2 H2 k1 k2 _ => kp_l k2 (kp_l k1 hb)) (RepL.ints l)) q⟩
  · rename_i y e
    have ex := rv_str rx e
    exact .inr (.inr ⟨y, ex, hq _ _ H1 B1 (fun _ => False) s1 (fun _ z => z.elim) itok_str q⟩)
  · exact q.elim
/-- range(n), range(a, b) -/
def rngD (lo : Int) (n : Nat) : List D := (List.range n).map fun i => D.int (lo + (i : Nat))
theorem itok_rng {K : PySem.W.Frag} {lo : Int} {n : Nat} {B H : Hp} {src : Addr → Prop} : ItOk K (Itr lo n) (rngD lo n) B H src := by
  intro B2 H2 i k1 k2 hs
  refine ⟨fun d hd => ?_, fun hn => ?_⟩
  · unfold rngD at hd
    rw [List.getElem?_map] at hd
    have hl : i < n := by
      rcases Nat.lt_or_ge i n with z | z
      · exact z
      · rw [List.getElem?_eq_none (by rw [List.length_range]; exact z)] at hd
        cases hd
    rw [List.getElem?_range hl] at hd
    cases hd
    refine ⟨hl, fun x H3 z => ?_⟩
    obtain ⟨e2, rfl⟩ := z
    subst e2
    exact ⟨B2, .refl k2, .int _⟩
  · unfold rngD at hn
    rw [List.length_map, List.length_range] at hn
    exact Nat.le_of_eq hn
def dRng1 (da : DA) : DI := fun xc r P => da xc r fun ds => match ds with
  | [.int n] => (-(2 ^ 62) ≤ n ∧ n < 2 ^ 62) ∧ P (rngD 0 n.toNat)
  | _ => False
def dRng2 (da : DA) : DI := fun xc r P => da xc r fun ds => match ds with
  | [.int a, .int b] => (-(2 ^ 62) ≤ a ∧ a < 2 ^ 62 ∧ -(2 ^ 62) ≤ b ∧ b < 2 ^ 62) ∧ P (rngD a (b - a).toNat)
  | _ => False
theorem qi_rng1 {tg a : Expr} {p pos : Pos} {da : DA} (hg : Gl X "range") (hm : X.mg "range" = none) (ha : PA X [a] (LA X.K W da)) (hs : starEach [a] X.env = [(false, eval a X.env)] := by rfl) : PI X tg (.Call (.Name "range" p) [a] [] pos) (LI X.K W (dRng1 da)) := by
  refine imI (pi_range1 hg hm ha hs) fun s H R ⟨B, r, xc, P, k, en, h, hx, hq⟩ => ⟨B, r, xc, _, k, en, h, hx, fun vs ds H1 B1 s1 rl q => ?_⟩
  split at q
  · rename_i n
    cases rl with
    | cons h1 rl =>
      cases rl
      cases h1
      exact ⟨n, rfl, q.1.1, q.1.2, hq _ _ H1 B1 (fun _ => False) s1 (fun _ z => z.elim) itok_rng q.2⟩
  · exact q.elim
theorem qi_rng2 {tg a b : Expr} {p pos : Pos} {da : DA} (hg : Gl X "range") (hm : X.mg "range" = none) (ha : PA X [a, b] (LA X.K W da)) (hs : starEach [a, b] X.env = [(false, eval a X.env), (false, eval b X.env)] := by rfl) (hs2 : starEach [b] X.env = [(false, eval b X.env)] := by rfl) :
    PI X tg (.Call (.Name "range" p) [a, b] [] pos) (LI X.K W (dRng2 da)) := by
  refine imI (pi_range2 hg hm ha hs hs2) fun s H R ⟨B, r, xc, P, k, en, h, hx, hq⟩ => ⟨B, r, xc, _, k, en, h, hx, fun vs ds H1 B1 s1 rl q => ?_⟩
  split at q
  · rename_i n m
    cases rl with
    | cons h1 rl =>
      cases rl with
      | cons h2 rl =>
        cases rl
        cases h1
        cases h2
        exact ⟨n, m, rfl, q.1, hq _ _ H1 B1 (fun _ => False) s1 (fun _ z => z.elim) itok_rng q.2⟩
  · exact q.elim
/-! ### list comprehensions -/
def W0 : WX := fun _ _ _ _ => False
def X0 : DX := fun _ _ => False
def dYes : DT := fun _ _ P => P true
/-- a comprehension over these things: I by the turn and what is made so far -/
def Lc (tg : DG) (cond : DT) (elt : DE) (own : List Nat) (r : DEnv) (P : Val → Prop) (items : List D) : Prop := ∃ I : Nat → List D → Prop, I 0 [] ∧
  (∀ i x acc, items[i]? = some x → I i acc → tg x (wp r own) fun r2 => cond X0 r2 fun b => ifB b (elt X0 r2 fun y => asD (fun d => acc.length < sizeLine ∧ I (i + 1) (acc ++ [d])) y) (I (i + 1) acc)) ∧ ∀ acc, I items.length acc → P (.tmp (.lst acc))
def dLc (di : DI) (tg : DG) (cond : DT) (elt : DE) (own : List Nat) : DE := fun xc r P => di xc r (Lc tg cond elt own r P)
theorem l_lc {di : DI} {tg : DG} {cond : DT} {elt : DE} {own : List Nat} (s : L2.St) (H : Hp) (Q : VK) (h : L X.K W true (dLc di tg cond elt own) s H Q) :
    tLc (LI X.K W di) (LG X.K own tg) (LT X.K W0 cond) (L X.K W0 true elt) own s H Q := by
  obtain ⟨B, r, xc, P, k, en, h, hx, hq⟩ := h
  refine ⟨B, r, xc, _, k, en, h, hx, fun J items H1 B1 src s1 hsrc it q => fun Da nD => ?_⟩
  obtain ⟨I, i0, turn, fin⟩ := q
  refine ⟨fun i m H => ∃ B2 vs acc, m = items.length - i ∧ i ≤ items.length ∧ Step B1 H1 B2 H ∧ H Da = some (.lst vs) ∧ B2 Da = none ∧ RepL X.K B2 vs acc ∧ I i acc,
    ⟨items.length, B1, [], [], by omega, Nat.zero_le _, .tmp s1.sub nD, upd_same, s1.sub.none nD, .nil, i0⟩, ?_⟩
  rintro i m H2 ⟨B2, vs, acc, rfl, hi, s2, hD, bD, rl, inv⟩
  have z := it B2 H2 i s2.kp s2.sub fun p o hp ho => s2.out p o ho (hsrc p hp).2.1
  by_cases hlt : i < items.length
  · obtain ⟨d, hd⟩ : ∃ d, items[i]? = some d := ⟨items[i], by simp [hlt]⟩
    obtain ⟨go, yl⟩ := z.1 d hd
    refine .inr ⟨go, fun H' => ∃ B2 vs acc, Step B1 H1 B2 H' ∧ H' Da = some (.lst vs) ∧ B2 Da = none ∧ RepL X.K B2 vs acc ∧ I (i + 1) acc, fun H' ⟨B3, vs3, acc3, s3, hD3, bD3, rl3, inv3⟩ => ⟨items.length - (i + 1), by omega, B3, vs3, acc3, rfl, hlt, s3, hD3, bD3, rl3, inv3⟩, fun x H3 y => ?_⟩
    obtain ⟨B3, s3, rx⟩ := yl x H3 y
    have hD3 := s3.out Da _ hD bD
    have s13 := s1.trans (s2.trans s3)
    have en3 := (en.step s13).wipe own
    refine ⟨B3, wp r own, d, _, s3.sub, en3, rx, turn i d acc hd inv, fun s' r' en' hw _ q => ?_⟩
    rw [show wipe (wipe s own) own = wipe s own from ?_] at hw
    · refine ⟨hw, B3, r', X0, _, s3.sub, en', q, fun _ _ _ _ _ _ _ z => z.elim, fun b H4 B4 s4 q => ?_⟩
      have hD4 := s4.out Da _ hD3.1 hD3.2
      cases b with
      | false =>
        unfold ifB at q; rw [if_neg Bool.false_ne_true] at q
        refine iteF ?_
        exact ⟨B4, vs, acc, s2.trans (s3.trans s4), hD4.1, hD4.2, rl.mono (s3.kp.trans s4.kp), q⟩
      | true =>
        unfold ifB at q; rw [if_pos rfl] at q
        refine iteT ?_
        refine ⟨B4, r', X0, _, s4.sub, en'.step s4, q, fun _ _ _ _ _ _ _ z => z.elim, fun v vx H5 B5 s5 rv fr q => ?_⟩
        have hD5 := s5.out Da _ hD4.1 hD4.2
        cases vx with
        | tmp c => exact q.elim
        | dat e =>
          obtain ⟨hl, q⟩ := q
          have rl5 : RepL X.K B5 vs acc := rl.mono (s3.kp.trans (s4.kp.trans s5.kp))
          have s25 := s2.trans (s3.trans (s4.trans s5))
          refine ⟨vs, hD5.1, by rw [rl5.length]; exact hl, B5, vs ++ [v], acc ++ [e], ⟨s25.kp, s25.sub.upd hD5.2, fun a o h n => ?_⟩, upd_same, hD5.2, rl5.append (.cons rv .nil), q⟩
          have ne : a ≠ Da := fun z => by rw [z, nD] at h; cases h
          rw [upd_ne ne]
          exact s25.out a o h n
    · have idem : ∀ l : List Nat, ∀ s : L2.St, wipe (wipe s l) l = wipe s l := by
        have comm : ∀ (l : List Nat) (v : Nat) (s : L2.St), wipe (s.set v none) l = (wipe s l).set v none := by
          intro l
          induction l with
          | nil => intro v s; rfl
          | cons a l ih =>
            intro v s
            show (wipe (s.set v none) l).set a none = ((wipe s l).set a none).set v none
            rw [ih]
            by_cases z : v = a
            · subst z; rfl
            · exact List.set_comm _ _ z
        intro l
        induction l with
        | nil => intro s; rfl
        | cons a l ih =>
          intro s
          show (wipe ((wipe s l).set a none) l).set a none = (wipe s l).set a none
          rw [comm, ih, List.set_set]
      exact idem own s
  · have e : i = items.length := by omega
    subst e
    exact .inl ⟨z.2 rfl, hq _ (.tmp (.lst acc)) H2 B2 (s1.trans s2) ⟨Da, rfl, bD, vs, hD, rl⟩ (fun _ p c e _ => by cases e; exact s1.free nD) (fin acc inv)⟩
theorem q_lc {elt tg iter : Expr} {ifs : List Expr} {scope : Scope} {own : List (Str × Nat)} {pos : Pos} {di : DI} {dg : DG} {cond : DT} {de : DE} (hc : X.calm = true) (hN : X.N.Nodup) (hi : PI X tg iter (LI X.K W di)) (ok : BlkOk X.N X.env.scope scope own)
    (hg : ∀ (s : Shared) (H : Hp) (C : Addr) (cl : List (Str × Addr)) (fp : List Addr), PG (X.blk s H scope (compEnvC scope cl C X.env) fp) tg (LG X.K (own.map (·.2)) dg)) (ht : ∀ (s : Shared) (H : Hp) (C : Addr) (cl : List (Str × Addr)) (fp : List Addr), PTs (X.blk s H scope (compEnvC scope cl C X.env) fp) ifs (LT X.K W0 cond))
    (he : ∀ (s : Shared) (H : Hp) (C : Addr) (cl : List (Str × Addr)) (fp : List Addr), PE (X.blk s H scope (compEnvC scope cl C X.env) fp) elt (L X.K W0 true de)) (hs : ∀ x, foldedSetIterable iter X.env x = pure x := by intro _; rfl) :
    PE X (.ListComp elt [⟨tg, iter, ifs, 0⟩] scope pos) (L X.K W true (dLc di dg cond de (own.map (·.2)))) := imE (pe_lc hc hN hi ok hg ht he hs) l_lc
theorem qts_nil : PTs X [] (LT X.K W dYes) := ⟨fun pins s t H Q I ⟨B, r, xc, P, k, en, h, hx, hq⟩ => pts_nil.run pins s t H Q I (hq true H B (.refl k) h)⟩
theorem qts_one {c : Expr} {t : DT} (h : PT X c (LT X.K W t)) : PTs X [c] (LT X.K W t) := pts_one h
/-! ### calls of the text's own defs -/
def dCall (sp : DSp) (da : DA) : DE := fun xc r P => da xc r fun ds => sp ds (fun _ => False) P
def dCallX (sp : DSp) (da : DA) : DE := fun xc r P => da xc r fun ds => sp ds (fun e => xc e r) P
theorem q_call {x : Str} {p pos : Pos} {e : Expr} {es : List Expr} {k : Nat} {f : Addr} {fd : FuncData} {ps : List Str} {sp : DSp} {da : DA} (F : FnOk X.prog X.w X.K X.mg X.base CX0 k f fd ps (spD X.K sp)) (hr : Room k X.A) (hg : Gl X x) (hm : X.mg x = some (.ref f)) (hk : PySem.W.keepIn X.K (.ref f) = true) (hb : Binds X.K fd ps [])
    (ha : PA X (e :: es) (LA X.K W da)) (hdb : (x == ("__debug__" : Str)) = false := by decide) (he : starEach (e :: es) X.env = (false, eval e X.env) :: starEach es X.env := by rfl) (hpl : (backTo pos (starEach es X.env)).any (·.1) = false := by rfl) :
    PE X (.Call (.Name x p) (e :: es) [] pos) (L X.K W true (dCall sp da)) := by
  refine imE (pe_call F hr hg hm hk hb .nil pass0 ha hdb he hpl) fun s H Q ⟨B, r, xc, P, k, en, h, hx, hq⟩ => ⟨B, r, xc, _, k, en, h, hx, fun vs ds H1 B1 s1 rl q => ?_⟩
  show spD X.K sp (vs ++ []) H1 Q E0
  rw [List.append_nil]
  exact ⟨B1, ds, _, P, s1.sub, rl, q, fun _ _ _ _ _ _ _ z => z.elim, fun v x H' B' s2 rv fr p => hq v x H' B' (s1.trans s2) rv (fun _ => fr.back s1) p⟩
theorem q_call0 {x : Str} {p pos : Pos} {k : Nat} {f : Addr} {fd : FuncData} {ps : List Str} {sp : DSp} (F : FnOk X.prog X.w X.K X.mg X.base CX0 k f fd ps (spD X.K sp)) (hr : Room k X.A) (hg : Gl X x) (hm : X.mg x = some (.ref f)) (hk : PySem.W.keepIn X.K (.ref f) = true) (hb : Binds X.K fd ps [])
    (hdb : (x == ("__debug__" : Str)) = false := by decide) : PE X (.Call (.Name x p) [] [] pos) (L X.K W true (dCall sp dNil)) := by
  refine imE (pe_call0 F hr hg hm hk hb .nil pass0 hdb) fun s H Q ⟨B, r, xc, P, k, en, h, hx, hq⟩ => ?_
  exact ⟨B, [], _, P, k, .nil, h, fun _ _ _ _ _ _ _ z => z.elim, fun v x H' B' s2 rv fr p => hq v x H' B' s2 rv (fun _ => fr) p⟩
theorem q_callX {x : Str} {p pos : Pos} {e : Expr} {es : List Expr} {k : Nat} {f : Addr} {fd : FuncData} {ps : List Str} {sp : DSp} {da : DA} (F : FnOk X.prog X.w X.K X.mg X.base (L2.CX X.prog X.w) k f fd ps (spD X.K sp)) (hr : Room k X.A) (hg : Gl X x) (hm : X.mg x = some (.ref f)) (hk : PySem.W.keepIn X.K (.ref f) = true) (hb : Binds X.K fd ps [])
    (tk : Takes X W) (ha : PA X (e :: es) (LA X.K W da)) (hdb : (x == ("__debug__" : Str)) = false := by decide) (he : starEach (e :: es) X.env = (false, eval e X.env) :: starEach es X.env := by rfl) (hpl : (backTo pos (starEach es X.env)).any (·.1) = false := by rfl) :
    PE X (.Call (.Name x p) (e :: es) [] pos) (L X.K W true (dCallX sp da)) := by
  refine imE (pe_callS F hr hg hm hk hb (fun s => passAt tk s) ha hdb he hpl) fun s H Q ⟨B, r, xc, P, k, en, h, hx, hq⟩ => ⟨B, r, xc, _, k, en, h, hx, fun vs ds H1 B1 s1 rl q => ?_⟩
  exact ⟨B1, ds, _, P, s1.sub, rl, q, fun cls d e H' B' s2 => hx cls d e H' B' (s1.trans s2), fun v x H' B' s2 rv fr p => hq v x H' B' (s1.trans s2) rv (fun _ => fr.back s1) p⟩
/-! ### statements -/
def dNext : DS := fun _ E r => E.nx r
def dSeq (t u : DS) : DS := fun xc E r => t xc { E with nx := u xc E } r
def dSet (i : Nat) (de : DE) : DS := fun xc E r => de xc r fun x => E.nx (st r i (some x))
def dRet (de : DE) : DS := fun xc E r => de xc r E.rt
/-- return x, x a local: what it owns goes with it -/
def dRetV (i : Nat) : DS := fun xc E r => match lk r i with
  | some x => E.rt x
  | none => False
def dRetN : DS := fun _ E _ => E.rt (.dat .non)
def dDrop (de : DE) : DS := fun xc E r => de xc r fun _ => E.nx r
def dIfS (t : DT) (u v : DS) : DS := fun xc E r => t xc r fun b => ifB b (u xc E r) (v xc E r)
def dBreak : DS := fun _ E r => E.bk r
def dCont : DS := fun _ E r => E.ct r
theorem ls_nx {E : Ends} {s : L2.St} {H B : Hp} {r : DEnv} {ds : DS} (h : LS X.K W ds E s H) : ∃ B r xc De, Kp B H ∧ EnvRep X.K B H s r ∧ ds xc De r ∧ True := by
  obtain ⟨B, r, xc, De, k, en, h, _⟩ := h
  exact ⟨B, r, xc, De, k, en, h, trivial⟩
theorem qss_nil : PSs X [] (LS X.K W dNext) := imSs pss_nil fun E s H ⟨B, r, xc, De, k, en, h, hx, nx, bk, ct, rt⟩ => nx s r H B (.refl k) en h
theorem qs_pass {pos : Pos} : PS X (.Pass pos) (LS X.K W dNext) := imS ps_pass fun E s H ⟨B, r, xc, De, k, en, h, hx, nx, bk, ct, rt⟩ => nx s r H B (.refl k) en h
theorem qs_break {pos : Pos} : PS X (.Break pos) (LS X.K W dBreak) := imS ps_break fun E s H ⟨B, r, xc, De, k, en, h, hx, nx, bk, ct, rt⟩ => bk s r H B (.refl k) en h
theorem qs_continue {pos : Pos} : PS X (.Continue pos) (LS X.K W dCont) := imS ps_continue fun E s H ⟨B, r, xc, De, k, en, h, hx, nx, bk, ct, rt⟩ => ct s r H B (.refl k) en h
theorem qss_one {a : Stmt} {t : DS} (h : PS X a (LS X.K W t)) : PSs X [a] (LS X.K W t) := pss_one h
theorem qss_cons {a : Stmt} {rest : List Stmt} {t u : DS} (h1 : PS X a (LS X.K W t)) (h2 : PSs X rest (LS X.K W u)) : PSs X (a :: rest) (LS X.K W (dSeq t u)) := by
  refine imSs (pss_cons h1 h2) fun E s H ⟨B, r, xc, De, k, en, h, hx, nx, bk, ct, rt⟩ => ?_
  refine ⟨B, r, xc, { De with nx := u xc De }, k, en, h, hx, fun s' r' H' B' z en' q => ?_, bk, ct, rt⟩
  exact ⟨B', r', xc, De, z.sub, en', q, fun cls d e s2 r2 H2 B2 z2 => hx cls d e s2 r2 H2 B2 (z.trans z2), fun s2 r2 H2 B2 z2 => nx s2 r2 H2 B2 (z.trans z2), fun s2 r2 H2 B2 z2 => bk s2 r2 H2 B2 (z.trans z2), fun s2 r2 H2 B2 z2 => ct s2 r2 H2 B2 (z.trans z2), fun v x H2 B2 z2 => rt v x H2 B2 (z.trans z2)⟩
theorem StepS.set {B H B' H' : Hp} {s : L2.St} {r : DEnv} {i : Nat} {v : V} {x : Val} (z : Step B H B' H') (f : Fr H v x) : StepS B H s r B' H' (s.set i (some v)) (st r i (some x)) :=
  ⟨z.kp, z.sub, fun a o h n w => ⟨(z.out a o h n).1, (z.out a o h n).2, fun ow => (Owns.set ow).elim w fun ⟨e, c, ex⟩ => by rw [f a c e ex] at h; cases h⟩⟩
theorem EnvRep.setN {K : PySem.W.Frag} {B H B' H' : Hp} {s : L2.St} {r : DEnv} {i : Nat} {v : V} {x : Val} (en : EnvRep K B H s r) (z : Step B H B' H') (rv : RepV K B' H' v x) (f : Fr H v x) : EnvRep K B' H' (s.set i (some v)) (st r i (some x)) :=
  (en.step z).set rv fun a c e ex ow => by
    obtain ⟨_, o, h⟩ := en.owned ow
    rw [f a c e ex] at h
    cases h
theorem qs_set {i : Nat} {x : Str} {e : Expr} {de : DE} {pos pos' : Pos} (hN : X.N.Nodup) (hi : X.N[i]? = some x) (hx : Loc X.env.scope x) (he : PE X e (L X.K W true de)) (hs : swapsWith e (some (.Name x pos')) pos.line X.env = pure false := by rfl) (hf : X.fn x = true ∨ X.env.scope.names.lookup x = some .local := by first | exact .inl rfl | exact .inr rfl | assumption) :
    PS X (.Assign [.Name x pos'] e pos) (LS X.K W (dSet i de)) := by
  refine imS (ps_set hN hi hx he hs hf) fun E s H ⟨B, r, xc, De, k, en, h, hx, nx, bk, ct, rt⟩ => ?_
  exact ⟨B, r, xc, _, k, en, h, fun cls d e H' B' z => hx cls d e s r H' B' z.s (en.step z), fun v x H' B' z rv fr p => nx _ _ H' B' (.set z (fr rfl)) (en.setN z rv (fr rfl)) p⟩
theorem step_rt {B H B' H' : Hp} {s : L2.St} {r : DEnv} {v : V} {x : Val} (z : Step B H B' H') (f : Fr H v x) : StepS B H s r B' H' [some v] [some x] :=
  ⟨z.kp, z.sub, fun a o h n w => ⟨(z.out a o h n).1, (z.out a o h n).2, fun ow => by
    obtain ⟨j, c, h1, h2⟩ := ow
    cases j with
    | zero =>
      have e1 : x = .tmp c := Option.some.inj h1
      have e2 : v = .ref a := Option.some.inj (Option.some.inj h2)
      rw [f a c e2 e1] at h
      cases h
    | succ j => cases h1⟩⟩
theorem qs_ret {e : Expr} {de : DE} {pos : Pos} (he : PE X e (L X.K W true de)) : PS X (.Return (some e) pos) (LS X.K W (dRet de)) := by
  refine imS (ps_ret he) fun E s H ⟨B, r, xc, De, k, en, h, hx, nx, bk, ct, rt⟩ => ?_
  exact ⟨B, r, xc, _, k, en, h, fun cls d e H' B' z => hx cls d e s r H' B' z.s (en.step z), fun v x H' B' z rv fr p => rt v x H' B' (step_rt z (fr rfl)) rv p⟩
theorem qs_retV (i : Nat) {x : Str} {pos pos' : Pos} (hN : X.N[i]? = some x := by rfl) (hv : Vis X.env.scope x := by first | exact Or.inl rfl | exact Or.inr (Or.inl rfl) | exact Or.inr (Or.inr rfl)) (hd : (x == ("__debug__" : Str)) = false := by decide)
    (hcd : (x == ("__classdict__" : Str)) = false := by decide) : PS X (.Return (some (.Name x pos)) pos') (LS X.K W (dRetV i)) := by
  refine imS (ps_ret (pv i hN hv hd hcd)) fun E s H ⟨B, r, xc, De, k, en, h, hx, nx, bk, ct, rt⟩ => ?_
  unfold dRetV at h
  cases e : lk r i with
  | none => rw [e] at h; exact h.elim
  | some y =>
    rw [e] at h
    obtain ⟨v, h1, h2⟩ := en.at_ i y e
    refine ⟨v, h1, rt v y H B ⟨.refl B, k, fun a o ha n w => ⟨ha, n, fun ow => ?_⟩⟩ h2 h⟩
    obtain ⟨j, c, q1, q2⟩ := ow
    cases j with
    | zero =>
      have e1 : y = .tmp c := Option.some.inj q1
      have e2 : v = .ref a := Option.some.inj (Option.some.inj q2)
      rw [e2] at h1
      rw [e1] at e
      exact w ⟨i, c, e, h1⟩
    | succ j => cases q1
theorem qs_retN {pos : Pos} : PS X (.Return none pos) (LS X.K W dRetN) := by
  refine imS ps_retN fun E s H ⟨B, r, xc, De, k, en, h, hx, nx, bk, ct, rt⟩ => ?_
  exact rt .non (.dat .non) H B (step_rt (.refl k) Fr.dat) .non h
theorem qs_expr {e : Expr} {de : DE} {pos : Pos} {f : Bool} (he : PE X e (L X.K W f de)) (hs : swapsWith e none pos.line X.env = pure false := by rfl) : PS X (.Expr e pos) (LS X.K W (dDrop de)) := by
  refine imS (ps_expr he hs) fun E s H ⟨B, r, xc, De, k, en, h, hx, nx, bk, ct, rt⟩ => ?_
  exact ⟨B, r, xc, _, k, en, h, fun cls d e H' B' z => hx cls d e s r H' B' z.s (en.step z), fun v x H' B' z rv fr p => nx _ _ H' B' z.s (en.step z) p⟩
theorem qs_if {c : Expr} {a b : List Stmt} {pos : Pos} {t : DT} {u v : DS} (hc : PT X c (LT X.K W t)) (ha : PSs X a (LS X.K W u)) (hb : PSs X b (LS X.K W v)) : PS X (.If c a b pos) (LS X.K W (dIfS t u v)) := by
  refine imS (ps_if hc ha hb) fun E s H ⟨B, r, xc, De, k, en, h, hx, nx, bk, ct, rt⟩ => ?_
  refine ⟨B, r, xc, _, k, en, h, fun cls d e H' B' z => hx cls d e s r H' B' z.s (en.step z), fun b H1 B1 z q => ?_⟩
  cases b with
  | true =>
    unfold ifB at q; rw [if_pos rfl] at q ⊢
    exact ⟨B1, r, xc, De, z.sub, en.step z, q, fun cls d e s2 r2 H2 B2 z2 => hx cls d e s2 r2 H2 B2 (z.s.trans z2), fun s2 r2 H2 B2 z2 => nx s2 r2 H2 B2 (z.s.trans z2), fun s2 r2 H2 B2 z2 => bk s2 r2 H2 B2 (z.s.trans z2), fun s2 r2 H2 B2 z2 => ct s2 r2 H2 B2 (z.s.trans z2), fun v x H2 B2 z2 => rt v x H2 B2 (z.s.trans z2)⟩
  | false =>
    unfold ifB at q; rw [if_neg Bool.false_ne_true] at q ⊢
    exact ⟨B1, r, xc, De, z.sub, en.step z, q, fun cls d e s2 r2 H2 B2 z2 => hx cls d e s2 r2 H2 B2 (z.s.trans z2), fun s2 r2 H2 B2 z2 => nx s2 r2 H2 B2 (z.s.trans z2), fun s2 r2 H2 B2 z2 => bk s2 r2 H2 B2 (z.s.trans z2), fun s2 r2 H2 B2 z2 => ct s2 r2 H2 B2 (z.s.trans z2), fun v x H2 B2 z2 => rt v x H2 B2 (z.s.trans z2)⟩
/-- a loop over these things: I by the turn and the names -/
def Fo (tg : DG) (body : DS) (xc : DX) (E : DEnds) (r : DEnv) (items : List D) : Prop := ∃ I : Nat → DEnv → Prop, I 0 r ∧
  (∀ i x r, items[i]? = some x → I i r → tg x r fun r2 => body xc { E with nx := I (i + 1), ct := I (i + 1), bk := E.nx } r2) ∧ ∀ r, I items.length r → E.nx r
def dFor (di : DI) (tg : DG) (body : DS) : DS := fun xc E r => di xc r (Fo tg body xc E r)
theorem qs_for {tg iter : Expr} {body : List Stmt} {pos : Pos} {di : DI} {dg : DG} {vs : List Nat} {db : DS} (hp : PassesOwn (model X.prog X.w) X.A X.env X.xe) (hc : X.calm = true) (hi : PI X tg iter (LI X.K W di)) (hg : PG X tg (LG X.K vs dg)) (hb : PSs X body (LS X.K W db))
    (hs : ∀ x, foldedSetIterable iter X.env x = pure x := by intro _; rfl) : PS X (.For tg iter body [] pos) (LS X.K W (dFor di dg db)) := by
  refine imS (ps_for hp hc hi hg hb hs) fun E s H ⟨B, r, xc, De, k, en, h, hx, nx, bk, ct, rt⟩ => ?_
  refine ⟨B, r, xc, _, k, en, h, fun cls d e H' B' z => hx cls d e s r H' B' z.s (en.step z), fun J items H1 B1 src z1 hsrc it q => ?_⟩
  obtain ⟨I, i0, turn, fin⟩ := q
  refine ⟨fun i m s2 H2 => ∃ B2 r2, m = items.length - i ∧ i ≤ items.length ∧ StepS B1 H1 s r B2 H2 s2 r2 ∧ EnvRep X.K B2 H2 s2 r2 ∧ I i r2, ⟨items.length, B1, r, by omega, Nat.zero_le _, .refl z1.sub, en.step z1, i0⟩, ?_⟩
  rintro i m s2 H2 ⟨B2, r2, rfl, hi, z2, en2, inv⟩
  have src2 : ∀ p o, src p → H1 p = some o → H2 p = some o ∧ B2 p = none := fun p o hp ho => by
    obtain ⟨h0, h1, _⟩ := hsrc p hp
    have w : ¬ Owns s r p := fun ow => by
      obtain ⟨_, o, h⟩ := en.owned ow
      rw [h0] at h
      cases h
    exact ⟨(z2.out p o ho h1 w).1, (z2.out p o ho h1 w).2.1⟩
  have zz := it B2 H2 i z2.kp z2.sub src2
  by_cases hlt : i < items.length
  · obtain ⟨d, hd⟩ : ∃ d, items[i]? = some d := ⟨items[i], by simp [hlt]⟩
    obtain ⟨go, yl⟩ := zz.1 d hd
    refine .inr ⟨go, fun s3 H3 => ∃ B3 r3, StepS B1 H1 s r B3 H3 s3 r3 ∧ EnvRep X.K B3 H3 s3 r3 ∧ I (i + 1) r3, fun s3 H3 ⟨B3, r3, z3, en3, inv3⟩ => ⟨items.length - (i + 1), by omega, B3, r3, rfl, hlt, z3, en3, inv3⟩, fun x H3 y => ?_⟩
    obtain ⟨B3, z3, rx⟩ := yl x H3 y
    have en3 := en2.step z3
    refine ⟨B3, r2, d, _, z3.sub, en3, rx, turn i d r2 hd inv, fun s4 r4 en4 hw ow q => ?_⟩
    have z4 : StepS B1 H1 s r B3 H3 s4 r4 := z2.trans ⟨z3.kp, z3.sub, fun a o h n w => ⟨(z3.out a o h n).1, (z3.out a o h n).2, fun q => w (ow a q)⟩⟩
    exact ⟨B3, r4, xc, _, z3.sub, en4, q, fun cls d e s5 r5 H5 B5 z5 => hx cls d e s5 r5 H5 B5 (z1.s.trans (z4.trans z5)), fun s5 r5 H5 B5 z5 en5 q5 => ⟨B5, r5, z4.trans z5, en5, q5⟩, fun s5 r5 H5 B5 z5 => nx s5 r5 H5 B5 (z1.s.trans (z4.trans z5)), fun s5 r5 H5 B5 z5 en5 q5 => ⟨B5, r5, z4.trans z5, en5, q5⟩, fun v x H5 B5 z5 => rt v x H5 B5 (z1.s.trans (z4.trans z5))⟩
  · have e : i = items.length := by omega
    subst e
    exact .inl ⟨zz.2 rfl, nx s2 r2 H2 B2 (z1.s.trans z2) en2 (fin r2 inv)⟩
def dWhile (t : DT) (body : DS) : DS := fun xc E r => ∃ I : Nat → DEnv → Prop, (∃ m, I m r) ∧ ∀ m r, I m r → t xc r fun b => ifB b (body xc { E with nx := fun r => ∃ m', m' < m ∧ I m' r, ct := fun r => ∃ m', m' < m ∧ I m' r, bk := E.nx } r) (E.nx r)
/-! ### a local's own container -/
theorem own_at {K : PySem.W.Frag} {B H : Hp} {s : L2.St} {r : DEnv} {i : Nat} {c : Ct} (en : EnvRep K B H s r) (h : lk r i = some (.tmp c)) : ∃ p, s[i]? = some (some (.ref p)) ∧ B p = none ∧ RepC K B H p c := by
  obtain ⟨v, h1, p, rfl, n, w⟩ := en.at_ i _ h
  exact ⟨p, h1, n, w⟩
theorem own_write {K : PySem.W.Frag} {B H : Hp} {s : L2.St} {r : DEnv} {i : Nat} {c c' : Ct} {p : Addr} {o : HO} (k : Kp B H) (en : EnvRep K B H s r) (h : lk r i = some (.tmp c)) (hs : s[i]? = some (some (.ref p))) (n : B p = none) (w : RepC K B (upd H p o) p c') :
    EnvRep K B (upd H p o) s (st r i (some (.tmp c'))) ∧ StepS B H s r B (upd H p o) s (st r i (some (.tmp c'))) := by
  have hi : i < r.length := lk_lt h
  have ownp : Owns s r p := ⟨i, c, h, hs⟩
  refine ⟨⟨by rw [st_length, en.len], fun j x hj => ?_, fun j l c1 c2 a h1 h2 h3 h4 => ?_⟩, .refl B, k.upd n, fun a u ha nb nw => ?_⟩
  · by_cases z : i = j
    · subst z
      rw [lk_st_same hi] at hj
      cases hj
      exact ⟨.ref p, hs, p, rfl, n, w⟩
    · rw [lk_st_ne z] at hj
      obtain ⟨v, h1, h2⟩ := en.at_ j x hj
      refine ⟨v, h1, ?_⟩
      cases x with
      | dat d => exact h2
      | tmp c2 =>
        obtain ⟨q, rfl, n2, w2⟩ := h2
        have ne : q ≠ p := fun e => by
          subst e
          exact z (en.dis i j c c2 q h hj hs h1)
        exact ⟨q, rfl, n2, w2.move (.refl B) fun u hu => by rw [upd_ne ne]; exact hu⟩
  · have g : ∀ {j : Nat} {c1 : Ct}, lk (st r i (some (.tmp c'))) j = some (.tmp c1) → ∃ c3, lk r j = some (.tmp c3) := fun {j c1} hh => by
      by_cases z : i = j
      · subst z
        exact ⟨c, h⟩
      · rw [lk_st_ne z] at hh
        exact ⟨c1, hh⟩
    obtain ⟨c3, g1⟩ := g h1
    obtain ⟨c4, g2⟩ := g h2
    exact en.dis j l c3 c4 a g1 g2 h3 h4
  · have ne : a ≠ p := fun e => by
      subst e
      exact nw ownp
    rw [upd_ne ne]
    refine ⟨ha, nb, fun ow => ?_⟩
    obtain ⟨j, c1, h1, h2⟩ := ow
    by_cases z : i = j
    · subst z
      rw [hs] at h2
      cases h2
      exact ne rfl
    · rw [lk_st_ne z] at h1
      exact nw ⟨j, c1, h1, h2⟩
/-- x.append(e), x a local that owns its list -/
def dAppend (i : Nat) (de : DE) : DS := fun xc E r => match lk r i with
  | some (.tmp (.lst l)) => de xc r fun x => asD (fun d => l.length < sizeLine ∧ E.nx (st r i (some (.tmp (.lst (l ++ [d])))))) x
  | _ => False
theorem qs_append {i : Nat} {x : Str} {e : Expr} {de : DE} {p1 p2 p3 pos : Pos} (hx : PE X (.Name x p1) (tVar i)) (he : PE X e (L X.K W true de))
    (h : PE X (.Call (.Attribute (.Name x p1) "append" p2) [e] [] p3) (tBM X.K "list" rAppend (tVar i) (tCons (L X.K W true de) tNil)))
    (hs : swapsWith (.Call (.Attribute (.Name x p1) "append" p2) [e] [] p3) none pos.line X.env = pure false := by rfl) : PS X (.Expr (.Call (.Attribute (.Name x p1) "append" p2) [e] [] p3) pos) (LS X.K W (dAppend i de)) := by
  refine imS (ps_expr h hs) fun E s H ⟨B, r, xc, De, k, en, h, hx, nx, bk, ct, rt⟩ => ?_
  unfold dAppend at h
  split at h
  · rename_i l hl
    obtain ⟨p, hp, n, w⟩ := own_at en hl
    obtain ⟨vs, hv, rl⟩ := id w
    refine ⟨.ref p, hp, .inl ⟨rfl, vs, .inl (.inl hv)⟩, ?_⟩
    refine ⟨B, r, xc, _, k, en, h, fun cls d e H' B' z => hx cls d e s r H' B' z.s (en.step z), fun v x H1 B1 z rv fr q => ?_⟩
    cases x with
    | tmp c => exact q.elim
    | dat d =>
      obtain ⟨hlen, q⟩ := q
      have hv1 := z.out p _ hv n
      have rl1 := rl.mono z.kp
      obtain ⟨en2, z2⟩ := own_write (o := .lst (vs ++ [v])) (c' := .lst (l ++ [d])) z.sub (en.step z) hl hp hv1.2 ⟨_, upd_same, rl1.append (.cons rv .nil)⟩
      exact ⟨p, vs, v, rfl, rfl, hv1.1, by rw [rl1.length]; exact hlen, nx _ _ _ _ (z.s.trans z2) en2 q⟩
  · exact h.elim
/-- a local's own container becomes shared -/
def fz (r : DEnv) (i : Nat) : DEnv := match lk r i with
  | some (.tmp c) => st r i (some (.dat c.d))
  | _ => r
def dFz (i : Nat) (ds : DS) : DS := fun xc E r => (match lk r i with
  | some (.tmp c) => c.safe
  | _ => True) ∧ ds xc E (fz r i)
theorem qs_fz (i : Nat) {a : Stmt} {ds : DS} (h : PS X a (LS X.K W ds)) : PS X a (LS X.K W (dFz i ds)) := by
  refine imS h fun E s H ⟨B, r, xc, De, k, en, h, hx, nx, bk, ct, rt⟩ => ?_
  obtain ⟨hc, h⟩ := h
  unfold fz at h
  split at h
  · rename_i c hl
    rw [hl] at hc
    obtain ⟨p, hp, n, w⟩ := own_at en hl
    obtain ⟨o, ho⟩ := w.has
    have kp : Kp B (upd B p o) := .new n
    have sub : Kp (upd B p o) H := fun a u e => by
      by_cases z : a = p
      · subst z
        rw [upd_same] at e
        cases e
        exact ⟨fun _ => ho, fun d => ⟨_, ho, .refl d⟩⟩
      · rw [upd_ne z] at e
        exact k a u e
    have rd : Rep X.K (upd B p o) (.ref p) c.d := by
      cases c with
      | lst ds =>
        obtain ⟨vs, h, r⟩ := w
        rw [ho] at h
        cases h
        exact .lst upd_same (r.mono kp)
      | dic ds =>
        obtain ⟨vs, h, r⟩ := id w
        have nd := safe_nd (K := X.K) (B := B) (H := H) (v := .ref p) (x := .tmp (.dic ds)) ⟨p, rfl, n, w⟩ hc ds rfl p vs rfl h
        rw [ho] at h
        cases h
        exact .dic upd_same nd (r.mono kp)
    have hi := lk_lt hl
    have en2 : EnvRep X.K (upd B p o) H s (st r i (some (.dat c.d))) := by
      refine ⟨by rw [st_length, en.len], fun j x hj => ?_, fun j l c1 c2 a h1 h2 h3 h4 => ?_⟩
      · by_cases z : i = j
        · subst z
          rw [lk_st_same hi] at hj
          cases hj
          exact ⟨.ref p, hp, rd⟩
        · rw [lk_st_ne z] at hj
          obtain ⟨v, h1, h2⟩ := en.at_ j x hj
          refine ⟨v, h1, ?_⟩
          cases x with
          | dat d => exact Rep.mono kp h2
          | tmp c2 =>
            obtain ⟨q, rfl, n2, w2⟩ := h2
            have ne : q ≠ p := fun e => by
              subst e
              exact z (en.dis i j c c2 q hl hj hp h1)
            exact ⟨q, rfl, by rw [upd_ne ne]; exact n2, w2.move kp fun u hu => hu⟩
      · have g : ∀ {j : Nat} {c1 : Ct}, lk (st r i (some (.dat c.d))) j = some (.tmp c1) → lk r j = some (.tmp c1) := fun {j c1} hh => by
          by_cases z : i = j
          · subst z
            rw [lk_st_same hi] at hh
            cases hh
          · rw [lk_st_ne z] at hh
            exact hh
        exact en.dis j l c1 c2 a (g h1) (g h2) h3 h4
    have z : StepS B H s r (upd B p o) H s (st r i (some (.dat c.d))) := ⟨kp, sub, fun a u ha nb w2 => by
      have ne : a ≠ p := fun e => by
        subst e
        exact w2 ⟨i, c, hl, hp⟩
      rw [upd_ne ne]
      refine ⟨ha, nb, fun ow => ?_⟩
      obtain ⟨j, c1, h1, h2⟩ := ow
      by_cases z : i = j
      · subst z
        rw [lk_st_same hi] at h1
        cases h1
      · rw [lk_st_ne z] at h1
        exact w2 ⟨j, c1, h1, h2⟩⟩
    exact ⟨upd B p o, _, xc, De, sub, en2, h, fun cls d e s2 r2 H2 B2 z2 => hx cls d e s2 r2 H2 B2 (z.trans z2), fun s2 r2 H2 B2 z2 => nx s2 r2 H2 B2 (z.trans z2), fun s2 r2 H2 B2 z2 => bk s2 r2 H2 B2 (z.trans z2), fun s2 r2 H2 B2 z2 => ct s2 r2 H2 B2 (z.trans z2), fun v x H2 B2 z2 => rt v x H2 B2 (z.trans z2)⟩
  · exact ⟨B, r, xc, De, k, en, h, hx, nx, bk, ct, rt⟩
end
/-! ### a def keeps its promise -/
def args (N : List Str) (ds : List D) : DEnv := ds.map (fun d => some (.dat d)) ++ List.replicate (N.length - ds.length) none
theorem args_own {N : List Str} {ds : List D} {i : Nat} {c : Ct} : lk (args N ds) i ≠ some (.tmp c) := by
  unfold args
  intro h
  have g : ∀ (l : List D) (m : List (Option Val)) (i : Nat), (∀ i, lk m i = none) → lk (l.map (fun d => some (.dat d)) ++ m) i ≠ some (.tmp c) := by
    intro l
    induction l with
    | nil => intro m i hm h; rw [List.map_nil, List.nil_append, hm] at h; cases h
    | cons d l ih =>
      intro m i hm h
      cases i with
      | zero => cases h
      | succ i => exact ih m i hm h
  refine g ds _ i (fun i => ?_) h
  generalize N.length - ds.length = n
  induction n generalizing i with
  | zero => rfl
  | succ n ih =>
    cases i with
    | zero => rfl
    | succ i => exact ih i
theorem lk_eq : ∀ (e : DEnv) (i : Nat), lk e i = (e[i]?).getD none
  | [], _ => rfl
  | _ :: _, 0 => rfl
  | _ :: r, i + 1 => by
    show lk r i = ((_ :: r)[i + 1]?).getD none
    rw [lk_eq r i, List.getElem?_cons_succ]
theorem args_rep {K : PySem.W.Frag} {B H : Hp} {N : List Str} {vs : List V} {ds : List D} (r : RepL K B vs ds) : EnvRep K B H (L2.start N vs) (args N ds) := by
  refine ⟨by unfold L2.start args; simp [r.length], fun i x h => ?_, fun i j c c' a h => absurd h args_own⟩
  rw [lk_eq] at h
  unfold args at h
  unfold L2.start
  by_cases hi : i < ds.length
  · rw [List.getElem?_append_left (by rw [List.length_map]; exact hi), List.getElem?_map] at h
    cases e : ds[i]? with
    | none => rw [e] at h; cases h
    | some d =>
      rw [e] at h
      cases h
      obtain ⟨v, hv, rv⟩ := r.get e
      refine ⟨v, ?_, rv⟩
      rw [List.getElem?_append_left (by rw [List.length_map, r.length]; exact hi), List.getElem?_map, hv]
      rfl
  · rw [List.getElem?_append_right (by rw [List.length_map]; omega), List.getElem?_replicate] at h
    split at h <;> cases h
section
variable {P : Program} {w : World} {K : PySem.W.Frag} {mg : Str → Option Value} {base : Heap}
theorem noOwn {N : List Str} {ds : List D} {vs : List V} {a : Addr} : ¬ Owns (L2.start N vs) (args N ds) a := fun ⟨_, _, h, _⟩ => args_own h
/-- a def that raises nothing -/
theorem fn_d {x qual : Str} {sm : Stmt} {f : Addr} {fd : FuncData} {N ps : List Str} {k : Nat} {sp : DSp} {body : DS} (F : Fun K x qual sm f fd) (S : FnScope N ps (defScope sm))
    (len : ∀ ds xc R, sp ds xc R → ds.length = ps.length)
    (hb : ∀ (cdv : Value) (A : Around) (outer : List Env) (s : Shared) (H : Hp), Room k (A.deeper (envOfC qual (defScope sm) s.heap.objs.size f cdv)) →
      PSs (cxOf CX0 P w K mg base N qual (defScope sm) f cdv A outer s H E0).nox (defBody sm) (LS K W0 body))
    (h : ∀ ds xc R, sp ds xc R → body X0 { nx := fun _ => R (.dat .non), rt := R } (args N ds)) : FnOk P w K mg base CX0 (k + 1) f fd ps (spD K sp) := by
  refine F.ok S (fun vs H Q E hq => ?_) (fun cdv A outer s H vs Q E hr hq => ?_)
  · obtain ⟨B, ds, xc, R, k, rl, hs, _⟩ := hq
    rw [rl.length]
    exact len ds xc R hs
  · obtain ⟨B, ds, xc, R, k, rl, hs, _, rt⟩ := hq
    refine ⟨_, hb cdv A outer s H hr, ?_⟩
    refine ⟨B, args N ds, X0, _, k, args_rep rl, h ds xc R hs, fun _ _ _ _ _ _ _ _ _ _ z => z.elim, fun s' r' H' B' z en q => ?_, fun _ _ _ _ _ _ z => z.elim, fun _ _ _ _ _ _ z => z.elim, fun v x H' B' z rv q => ?_⟩
    · exact rt .non (.dat .non) H' B' ⟨z.kp, z.sub, fun a o ha n => ⟨(z.out a o ha n noOwn).1, (z.out a o ha n noOwn).2.1⟩⟩ .non Fr.dat q
    · refine rt v x H' B' ⟨z.kp, z.sub, fun a o ha n => ⟨(z.out a o ha n noOwn).1, (z.out a o ha n noOwn).2.1⟩⟩ rv (fun p c e1 e2 => ?_) q
      subst e1 e2
      cases e : H p with
      | none => rfl
      | some o =>
        cases eb : B p with
        | none => exact absurd ⟨0, c, rfl, rfl⟩ (z.out p o e eb noOwn).2.2
        | some u =>
          obtain ⟨q2, h2, n2, _⟩ := rv
          cases h2
          obtain ⟨u2, h3⟩ := z.kp.some eb
          rw [n2] at h3
          cases h3
end
end Dl
/-! Dl4: subscripts, slices, calls of built-ins, methods of texts, displays of dicts. -/
namespace Dl
open PySem PySem.Spec PyProof.Rows L2
section
variable {X : Cx} {W : WX}
/-! ### subscripts -/
theorem atI_rep {K : PySem.W.Frag} {B : Hp} {vs : List V} {ds : List D} (r : RepL K B vs ds) {i : Int} {d : D} (h : atI ds i = some d) : ∃ v, atI vs i = some v ∧ Rep K B v d := by
  unfold atI at h ⊢
  rw [r.length]
  cases e : ixN ds.length i with
  | none => rw [e] at h; cases h
  | some j =>
    rw [e] at h
    exact r.get (i := j) h
/-- some a, of which P holds -/
def onO {α : Type} : Option α → (α → Prop) → Prop
  | some a, P => P a
  | none, _ => False
theorem onO_elim {α : Type} {o : Option α} {P : α → Prop} (h : onO o P) : ∃ a, o = some a ∧ P a := by
  cases o with
  | none => exact h.elim
  | some a => exact ⟨a, rfl, h⟩
theorem onO_of {α : Type} {o : Option α} {P : α → Prop} {a : α} (e : o = some a) (h : P a) : onO o P := by
  rw [e]
  exact h
def fIxD (P : Val → Prop) : D → D → Prop
  | .tup l, .int i => onO (atI l i) fun d => P (.dat d)
  | .lst l, .int i => onO (atI l i) fun d => P (.dat d)
  | .scr l, .int i => onO (atI l i) fun n => P (.dat (.int n))
  | .str z, .int i => z.length ≤ sizeLine ∧ onO (atI z.cps.toList i) fun c => P (.dat (.str ⟨#[c]⟩))
  | _, _ => False
def fIx : F2 := fun x y P => fIxD P x.d y.d
theorem atI_map {α β : Type} (g : α → β) (l : List α) (i : Int) : atI (l.map g) i = (atI l i).map g := by
  unfold atI
  rw [List.length_map]
  cases ixN l.length i with
  | none => rfl
  | some j => exact List.getElem?_map
theorem rel_ix {K : PySem.W.Frag} : RelR K (rIx K) fIx := by
  intro B H x y vx vy P Q k rx ry h a
  unfold fIx fIxD at h
  split at h
  · rename_i l i e1 e2
    obtain ⟨d, hd, h⟩ := onO_elim h
    obtain ⟨p, vs, rfl, hb, hp, rl⟩ := rv_tup k rx e1
    obtain ⟨v, hv, rv⟩ := atI_rep rl hd
    exact .inr (.inl ⟨p, vs, i, v, rfl, rv_int ry e2, hp, hv, a.dat k rv h⟩)
  · rename_i l i e1 e2
    obtain ⟨d, hd, h⟩ := onO_elim h
    obtain ⟨p, vs, rfl, hp, rl⟩ := rv_lst k rx e1
    obtain ⟨v, hv, rv⟩ := atI_rep rl hd
    exact .inl ⟨p, vs, i, v, rfl, rv_int ry e2, .inl (.inl hp), hv, a.dat k rv h⟩
  · rename_i l i e1 e2
    obtain ⟨n, hn, h⟩ := onO_elim h
    obtain ⟨p, rfl, hp⟩ := rv_scr k rx e1
    exact .inl ⟨p, _, i, .int n, rfl, rv_int ry e2, hp, by rw [atI_map, hn]; rfl, a.dat k (.int n) h⟩
  · rename_i z i e1 e2
    obtain ⟨hz, h⟩ := h
    obtain ⟨c, hc, h⟩ := onO_elim h
    exact .inr (.inr ⟨z, i, c, rv_str rx e1, rv_int ry e2, hz, hc, a.dat k (.str _) h⟩)
  · exact h.elim
theorem q_sub1 {a b : Expr} {pos : Pos} {da db : DE} {fa fb : Bool} (ha : PE X a (L X.K W fa da)) (hb : PE X b (L X.K W fb db)) (hs : PlainIx b := by exact fun _ _ => rfl) : PE X (.Subscript a b pos) (L X.K W true (dOp fIx da db)) := q_ix ix_seq rel_ix ha hb hs
/-! ### slices -/
abbrev DO := DX → DEnv → (Option Int → Prop) → Prop
def LO (K : PySem.W.Frag) (W : WX) (dt : DO) : TO := fun s H Q => ∃ B r xc P, Kp B H ∧ EnvRep K B H s r ∧ dt xc r P ∧
  (∀ cls d e H' B', Step B H B' H' → ExcRep K B' cls d e → xc e r → W cls d s H') ∧
  ∀ b H' B', Step B H B' H' → P b → Q b H'
def dNo : DO := fun _ _ P => P none
def asI (P : Int → Prop) : D → Prop
  | .int i => P i
  | _ => False
theorem asI_elim {P : Int → Prop} {d : D} (h : asI P d) : ∃ b, d = .int b ∧ P b := by
  cases d <;> first | exact ⟨_, rfl, h⟩ | exact h.elim
def asS (P : Str → Prop) : D → Prop
  | .str i => P i
  | _ => False
theorem asS_elim {P : Str → Prop} {d : D} (h : asS P d) : ∃ b, d = .str b ∧ P b := by
  cases d <;> first | exact ⟨_, rfl, h⟩ | exact h.elim
def dPart (de : DE) : DO := fun xc r P => de xc r fun x => asI (fun i => P (some i)) x.d
theorem imO {e : Option Expr} {t u : TO} (h : PO X e t) (f : ∀ s H Q, u s H Q → t s H Q) : PO X e u := ⟨fun pins s r H Q I q => h.run pins s r H Q I (f _ _ _ q)⟩
theorem qo_none : PO X none (LO X.K W dNo) := imO po_none fun s H Q ⟨B, r, xc, P, k, en, h, hx, hq⟩ => hq none H B (.refl k) h
theorem qo_some {e : Expr} {de : DE} {f : Bool} (h : PE X e (L X.K W f de)) : PO X (some e) (LO X.K W (dPart de)) := by
  refine imO (po_some h) fun s H Q ⟨B, r, xc, P, k, en, h, hx, hq⟩ => ⟨B, r, xc, _, k, en, h, hx, fun v x H1 B1 z rv _ q => ?_⟩
  obtain ⟨i, e, q⟩ := asI_elim q
  exact ⟨i, rv_int rv e, hq _ H1 B1 z q⟩
def cutD (l : List D) (lo hi : Option Int) : List D := (l.drop (HT.sIx l.length 0 lo)).take (HT.sIx l.length l.length hi - HT.sIx l.length 0 lo)
theorem cut_rep {K : PySem.W.Frag} {B : Hp} {vs : List V} {ds : List D} (r : RepL K B vs ds) (lo hi : Option Int) : RepL K B (cutV vs lo hi) (cutD ds lo hi) := by
  unfold cutV cutD
  rw [r.length]
  exact (r.drop _).take _
def rSlU (K : PySem.W.Frag) : V → Option Int → Option Int → Hp → VK → Prop := fun x lo hi H Q => rSlL K x lo hi H Q ∨ (rSlA K x lo hi H Q ∨ rSlS x lo hi H Q)
theorem sl_u : SlR X (rSlU X.K) := by
  intro pins s t H x v vl vu lo hi sl Q I rx hs pl pu h
  rcases h with h | h | h
  · exact sl_list pins s t H x v vl vu lo hi sl Q I rx hs pl pu h
  · exact sl_tupA pins s t H x v vl vu lo hi sl Q I rx hs pl pu h
  · exact sl_str pins s t H x v vl vu lo hi sl Q I rx hs pl pu h
def fSlD (lo hi : Option Int) (P : Val → Prop) : D → Prop
  | .lst l => P (.tmp (.lst (cutD l lo hi)))
  | .tup l => P (.dat (.tup (cutD l lo hi)))
  | .str z => z.length ≤ sizeLine ∧ P (.dat (.str (cutS z lo hi)))
  | _ => False
def fSl (x : Val) (lo hi : Option Int) (P : Val → Prop) : Prop := fSlD lo hi P x.d
def dSl (de : DE) (dl dh : DO) : DE := fun xc r P => de xc r fun x => dl xc r fun lo => dh xc r fun hi => fSl x lo hi P
theorem q_slice {e : Expr} {lo hi : Option Expr} {p2 pos : Pos} {de : DE} {dl dh : DO} {f : Bool} (he : PE X e (L X.K W f de)) (hl : PO X lo (LO X.K W dl)) (hh : PO X hi (LO X.K W dh)) : PE X (.Subscript e (.Slice lo hi none p2) pos) (L X.K W true (dSl de dl dh)) := by
  refine imE (pe_slice sl_u he hl hh) fun s H Q ⟨B, r, xc, P, k, en, h, hx, hq⟩ => ⟨B, r, xc, _, k, en, h, hx, fun x vx H1 B1 z1 rx _ q1 => ?_⟩
  refine ⟨B1, r, xc, _, z1.sub, en.step z1, q1, fun cls d e H' B' st => hx cls d e H' B' (z1.trans st), fun l H2 B2 z2 q2 => ?_⟩
  have z12 := z1.trans z2
  refine ⟨B2, r, xc, _, z2.sub, en.step z12, q2, fun cls d e H' B' st => hx cls d e H' B' (z12.trans st), fun u H3 B3 z3 q3 => ?_⟩
  have z := z12.trans z3
  have rx3 := (rx.step z2).step z3
  unfold fSl fSlD at q3
  split at q3
  · rename_i es e1
    obtain ⟨p, vs, rfl, hp, rl⟩ := rv_lst z3.sub rx3 e1
    exact .inl ⟨p, vs, rfl, .inl (.inl hp), fun q n => hq _ (.tmp (.lst (cutD es l u))) _ B3 (z.trans (.tmp z3.sub n)) ⟨q, rfl, z3.sub.none n, _, upd_same, cut_rep rl l u⟩ (fun _ p c e _ => by cases e; exact z.free n) q3⟩
  · rename_i es e1
    obtain ⟨p, vs, rfl, hb, hp, rl⟩ := rv_tup z3.sub rx3 e1
    have len := rl.length
    refine .inr (.inl ⟨p, vs, rfl, hp, fun w => ?_, fun w q n => ?_⟩)
    · have ec : cutD es l u = es := by
        unfold cutD
        rw [← len, w.1, w.2, List.drop_zero, Nat.sub_zero, len, List.take_length]
      rw [ec] at q3
      exact hq _ (.dat (.tup es)) H3 B3 z (.tup hb rl) (fun _ => Fr.dat) q3
    · exact hq _ (.dat (.tup (cutD es l u))) _ _ (z.trans (.new z3.sub n)) (.tup (.inl (.inl upd_same)) ((cut_rep rl l u).mono (Kp.new (z3.sub.none n)))) (fun _ => Fr.dat) q3
  · rename_i y e1
    exact .inr (.inr ⟨y, rv_str rx3 e1, q3.1, hq _ (.dat (.str _)) H3 B3 z (.str _) (fun _ => Fr.dat) q3.2⟩)
  · exact q3.elim
/-- y[::-1] of a text -/
def revS (z : Str) : Str := ⟨z.cps.toList.reverse.toArray⟩
theorem revS_length (z : Str) : (revS z).length = z.length := by
  show z.cps.toList.reverse.toArray.size = z.cps.size
  rw [List.size_toArray, List.length_reverse, Array.length_toList]
def dRevS (de : DE) : DE := fun xc r P => de xc r fun x => asS (fun z => z.length ≤ sizeLine ∧ P (.dat (.str (revS z)))) x.d
theorem rev_made (z : Str) : (⟨((Builtin.Str.strSliceIndices none none (-1) z.length).filterMap (z.cps[·]?)).toArray⟩ : Str) = revS z := by
  have h := PyProof.Rows.picked_rev z.length
  rw [h]
  refine congrArg Str.mk (congrArg List.toArray ?_)
  rw [PyProof.Rows.filterMap_get, List.map_map]
  · refine List.ext_getElem? fun i => ?_
    rw [List.getElem?_map]
    by_cases hi : i < z.length
    · have hs : z.cps.toList.length = z.length := Array.length_toList
      rw [List.getElem?_range hi, List.getElem?_reverse (by rw [hs]; exact hi), hs]
      have h2 : z.length - 1 - i < z.cps.size := by have : z.cps.size = z.length := rfl; omega
      rw [Array.getElem?_toList, Array.getElem?_eq_getElem h2]
      show some (z.cps.getD (z.length - 1 - i) 0) = _
      rw [Array.getD, dif_pos h2]
      rfl
    · rw [List.getElem?_eq_none (by rw [List.length_range]; omega), List.getElem?_eq_none (by rw [List.length_reverse, Array.length_toList]; have : z.cps.size = z.length := rfl; omega)]
      rfl
  · intro i hi
    obtain ⟨k, hk, rfl⟩ := List.mem_map.mp hi
    have hk' : k < z.length := List.mem_range.mp hk
    show z.length - 1 - k < z.cps.size
    have : z.cps.size = z.length := rfl
    omega
theorem q_revS {e : Expr} {k0 : Nat} {p1 p2 p3 pos : Pos} {de : DE} {f : Bool} (he : PE X e (L X.K W f de)) : PE X (.Subscript e (.Slice none none (some (.UnaryOp .USub (.Constant (.int 1) k0 p1) p2)) p3) pos) (L X.K W true (dRevS de)) := by
  have main : PE X (.Subscript e (.Slice none none (some (.UnaryOp .USub (.Constant (.int 1) k0 p1) p2)) p3) pos) (fun s H Q => L X.K W f de s H fun x H1 => ∃ z, x = .str z ∧ z.length ≤ sizeLine ∧ Q (.str (revS z)) H1) := by
    refine ⟨fun pins s t H Q I h => ?_⟩
    refine Subscript_ (thn (he.run pins s t H _ I h) fun v s1 ⟨x, H1, I1, r1, z, ex, hz, q⟩ => ?_)
    subst ex
    obtain ⟨tk, rfl⟩ := r1
    have hst : PO X (some (.UnaryOp .USub (.Constant (.int 1) k0 p1) p2)) (tPart (tUn (rU fun i => .int (-i)) (tC (.int 1)))) := po_some (pe_un un_neg pe_int)
    refine wpAny_Slice (thn (po_none.run pins s1 t H1 (fun o H2 => o = none ∧ H2 = H1) I1 ⟨rfl, rfl⟩) fun vl s2 ⟨l, H2, I2, pl, el, e2⟩ => ?_)
    subst el e2
    refine thn (po_none.run pins s2 t H2 (fun o H3 => o = none ∧ H3 = H2) I2 ⟨rfl, rfl⟩) fun vu s3 ⟨u, H3, I3, pu, eu, e3⟩ => ?_
    subst eu e3
    refine thn (hst.run pins s3 t H3 (fun o H4 => o = some (-1) ∧ H4 = H3) I3 ⟨1, rfl, -1, rfl, rfl, rfl⟩) fun vs s4 ⟨o, H4, I4, ps, eo, e4⟩ => ?_
    subst eo e4
    have I5 : Inv X pins t H4 { s4 with heap := s4.heap.push { cls := .type "slice", data := .fields #[vl, vu, vs] } } := I4.kept (t' := s4.toks) fun b ob q => Heap.get?_push_of_some _ q
    show wpAny (model X.prog X.w) X.A (subscriptTail e (.Slice none none (some (.UnaryOp .USub (.Constant (.int 1) k0 p1) p2)) p3) (.str z tk) (.ref s4.heap.objs.size)) (EP X pins t Q) X.xe { s4 with heap := s4.heap.push { cls := .type "slice", data := .fields #[vl, vu, vs] } }
    refine tail_any (ops := [.ref s4.heap.objs.size, .str z tk]) (typeIs_str _ _ _) (F.slot_str_getitem.lookup) ?_ (by with_unfolding_all rfl)
    obtain ⟨l, rfl, e1⟩ := IsPart.raw pl
    obtain ⟨u, rfl, e2⟩ := IsPart.raw pu
    obtain ⟨w, rfl, e3⟩ := IsPart.raw ps
    cases l with
    | some _ => cases e1
    | none =>
      cases u with
      | some _ => cases e2
      | none =>
        cases w with
        | none => cases e3
        | some w =>
          obtain ⟨wi, wt⟩ := w
          cases (show some wi = some (-1) from e3)
          refine wpAny_getItem_str_slice (l := none) (u := none) (st := some (-1, wt)) ⟨_, Heap.get?_push_size _ rfl, rfl, rfl⟩ rfl ?_
          show Made.post (if (((-1 : Int) == 1) && ((Builtin.Str.strSliceIndices none none (-1) z.length).length == z.length)) = true then Made.val (.str z tk)
            else Made.str ⟨((Builtin.Str.strSliceIndices none none (-1) z.length).filterMap (z.cps[·]?)).toArray⟩) (EP X pins t Q) _
          rw [if_neg (by show ¬ ((false && _) = true); rw [Bool.false_and]; exact Bool.false_ne_true), rev_made]
          exact ⟨by rw [revS_length]; exact hz, .str (revS z), H4, I5.tok _, ⟨_, rfl⟩, q⟩
  refine imE main fun s H Q ⟨B, r, xc, P, k, en, h, hx, hq⟩ => ⟨B, r, xc, _, k, en, h, hx, fun x vx H1 B1 z rx _ q => ?_⟩
  obtain ⟨y, e, q⟩ := asS_elim q
  exact ⟨y, rv_str rx e, q.1, hq _ (.dat (.str _)) H1 B1 z (.str _) (fun _ => Fr.dat) q.2⟩
/-! ### calls of built-ins -/
/-- what a built-in of one, of two arguments asks -/
def RelC1 (K : PySem.W.Frag) (r : List V → Hp → VK → Prop) (f : F1) : Prop := RelU K (fun x H Q => r [x] H Q) f
def RelC2 (K : PySem.W.Frag) (r : List V → Hp → VK → Prop) (f : F2) : Prop := RelR K (fun x y H Q => r [x, y] H Q) f
section
variable {x : Str} {p pos : Pos} {a b : Expr} {da db : DE} {fa fb : Bool} {id T : String} {r : List V → Hp → VK → Prop}
theorem q_b1 {f : F1} (hr : RelC1 X.K r f) (hc : CallR X (.builtin id) r) (hg : Gl X x) (hm : X.mg x = none) (hv : bootBuiltins x = some (.builtin id)) (ha : PE X a (L X.K W fa da)) (hn : x ≠ "__name__" := by decide) (hdb : (x == ("__debug__" : Str)) = false := by decide)
    (he : starEach [a] X.env = (false, eval a X.env) :: starEach [] X.env := by rfl) (hpl : (backTo pos (starEach [] X.env)).any (·.1) = false := by rfl) : PE X (.Call (.Name x p) [a] [] pos) (L X.K W true (dUn f da)) :=
  imE (pe_callB hc hg hm hv (pa_cons ha pa_nil he) hn hdb he hpl) (l_un hr)
theorem q_t1 {f : F1} (hr : RelC1 X.K r f) (hc : CallR X (.type T) r) (hg : Gl X x) (hm : X.mg x = none) (hv : bootBuiltins x = some (.type T)) (ha : PE X a (L X.K W fa da)) (hn : x ≠ "__name__" := by decide) (hdb : (x == ("__debug__" : Str)) = false := by decide)
    (he : starEach [a] X.env = (false, eval a X.env) :: starEach [] X.env := by rfl) (hpl : (backTo pos (starEach [] X.env)).any (·.1) = false := by rfl) : PE X (.Call (.Name x p) [a] [] pos) (L X.K W true (dUn f da)) :=
  imE (pe_callTy hc hg hm hv (pa_cons ha pa_nil he) hn hdb he hpl) (l_un hr)
theorem q_b2 {f : F2} (hr : RelC2 X.K r f) (hc : CallR X (.builtin id) r) (hg : Gl X x) (hm : X.mg x = none) (hv : bootBuiltins x = some (.builtin id)) (ha : PE X a (L X.K W fa da)) (hb : PE X b (L X.K W fb db)) (hn : x ≠ "__name__" := by decide) (hdb : (x == ("__debug__" : Str)) = false := by decide)
    (he : starEach [a, b] X.env = (false, eval a X.env) :: starEach [b] X.env := by rfl) (he2 : starEach [b] X.env = (false, eval b X.env) :: starEach [] X.env := by rfl) (hpl : (backTo pos (starEach [b] X.env)).any (·.1) = false := by rfl) : PE X (.Call (.Name x p) [a, b] [] pos) (L X.K W true (dOp f da db)) :=
  imE (pe_callB hc hg hm hv (pa_cons ha (pa_cons hb pa_nil he2) he) hn hdb he hpl) (l_op hr)
end
/-- len -/
def fLenD (P : Val → Prop) : D → Prop
  | .str z => z.length ≤ sizeLine ∧ P (.dat (.int z.length))
  | .tup l => P (.dat (.int l.length))
  | .lst l => P (.dat (.int l.length))
  | .scr l => P (.dat (.int l.length))
  | _ => False
def fLen : F1 := fun x P => fLenD P x.d
theorem rel_len : RelC1 X.K (fun xs H Q => ∃ x n, xs = [x] ∧ LenV X.K x H n ∧ Q (.int n) H) fLen := by
  intro B H x vx P Q k rx h a
  unfold fLen fLenD at h
  split at h
  · rename_i z e
    rw [rv_str rx e]
    exact ⟨_, _, rfl, ⟨h.1, rfl⟩, a.dat k (.int _) h.2⟩
  · rename_i l e
    obtain ⟨p, vs, rfl, _, hp, rl⟩ := rv_tup k rx e
    exact ⟨_, _, rfl, .inr ⟨vs, hp, rfl⟩, by rw [rl.length]; exact a.dat k (.int _) h⟩
  · rename_i l e
    obtain ⟨p, vs, rfl, hp, rl⟩ := rv_lst k rx e
    exact ⟨_, _, rfl, .inl ⟨vs, .inl (.inl hp), rfl⟩, by rw [rl.length]; exact a.dat k (.int _) h⟩
  · rename_i l e
    obtain ⟨p, rfl, hp⟩ := rv_scr k rx e
    exact ⟨_, _, rfl, .inl ⟨_, hp, rfl⟩, by rw [List.length_map]; exact a.dat k (.int _) h⟩
  · exact h.elim
def fAbsD (P : Val → Prop) : D → Prop
  | .int i => P (.dat (.int (if i < 0 then -i else i)))
  | _ => False
def fAbs : F1 := fun x P => fAbsD P x.d
theorem rel_abs {K : PySem.W.Frag} : RelC1 K (fun xs H Q => ∃ i, xs = [.int i] ∧ Q (.int (if i < 0 then -i else i)) H) fAbs := by
  intro B H x vx P Q k rx h a
  unfold fAbs fAbsD at h
  split at h
  · rename_i i e
    rw [rv_int rx e]
    exact ⟨i, rfl, a.dat k (.int _) h⟩
  · exact h.elim
def fIntD (P : Val → Prop) : D → Prop
  | .int i => P (.dat (.int i))
  | .bl b => P (.dat (.int (if b then 1 else 0)))
  | _ => False
def fInt : F1 := fun x P => fIntD P x.d
theorem rel_int {K : PySem.W.Frag} : RelC1 K (fun xs H Q => (∃ i, xs = [.int i] ∧ Q (.int i) H) ∨ ∃ k, xs = [.bl k] ∧ Q (.int (if k then 1 else 0)) H) fInt := by
  intro B H x vx P Q k rx h a
  unfold fInt fIntD at h
  split at h
  · rename_i i e
    rw [rv_int rx e]
    exact .inl ⟨i, rfl, a.dat k (.int _) h⟩
  · rename_i i e
    rw [rv_bl rx e]
    exact .inr ⟨i, rfl, a.dat k (.int _) h⟩
  · exact h.elim
def fMax : F2 := fI0 fun i j => .int (if j > i then j else i)
def fMin : F2 := fI0 fun i j => .int (if j < i then j else i)
theorem rel_max {K : PySem.W.Frag} : RelC2 K (fun xs H Q => ∃ i j, xs = [.int i, .int j] ∧ Q (.int (if j > i then j else i)) H) fMax := by
  intro B H x y vx vy P Q k rx ry h a
  unfold fMax fI0 fI0D at h
  split at h
  · rename_i i j e1 e2
    rw [rv_int rx e1, rv_int ry e2]
    exact ⟨i, j, rfl, a.dat k (.int _) h⟩
  · exact h.elim
theorem rel_min {K : PySem.W.Frag} : RelC2 K (fun xs H Q => ∃ i j, xs = [.int i, .int j] ∧ Q (.int (if j < i then j else i)) H) fMin := by
  intro B H x y vx vy P Q k rx ry h a
  unfold fMin fI0 fI0D at h
  split at h
  · rename_i i j e1 e2
    rw [rv_int rx e1, rv_int ry e2]
    exact ⟨i, j, rfl, a.dat k (.int _) h⟩
  · exact h.elim
/-- list(x), tuple(x) -/
def fListD (P : Val → Prop) : D → Prop
  | .lst l => P (.tmp (.lst l))
  | .tup l => P (.tmp (.lst l))
  | .scr l => P (.tmp (.lst (l.map D.int)))
  | _ => False
def fList : F1 := fun x P => fListD P x.d
theorem rel_list : RelC1 X.K (fun xs H Q => ∃ p ys, xs = [.ref p] ∧ (SqL X.K H p ys ∨ SqT X.K H p ys) ∧ ∀ l, H l = none → Q (.ref l) (upd H l (.lst ys))) fList := by
  intro B H x vx P Q k rx h a
  unfold fList fListD at h
  split at h
  · rename_i l e
    obtain ⟨p, vs, rfl, hp, rl⟩ := rv_lst k rx e
    exact ⟨p, vs, rfl, .inl (.inl (.inl hp)), fun q n => a.newL k rl h n⟩
  · rename_i l e
    obtain ⟨p, vs, rfl, _, hp, rl⟩ := rv_tup k rx e
    exact ⟨p, vs, rfl, .inr hp, fun q n => a.newL k rl h n⟩
  · rename_i l e
    obtain ⟨p, rfl, hp⟩ := rv_scr k rx e
    exact ⟨p, _, rfl, .inl hp, fun q n => a.newL k (RepL.ints l) h n⟩
  · exact h.elim
def fTupleD (P : Val → Prop) : D → Prop
  | .lst l => P (.dat (.tup l))
  | .tup l => P (.dat (.tup l))
  | .scr l => P (.dat (.tup (l.map D.int)))
  | _ => False
def fTuple : F1 := fun x P => fTupleD P x.d
theorem rel_tuple : RelC1 X.K (fun xs H Q => ∃ p ys, xs = [.ref p] ∧ ((SqL X.K H p ys ∧ ∀ l, H l = none → Q (.ref l) (upd H l (.tup ys))) ∨ (SqT X.K H p ys ∧ Q (.ref p) H))) fTuple := by
  intro B H x vx P Q k rx h a
  unfold fTuple fTupleD at h
  split at h
  · rename_i l e
    obtain ⟨p, vs, rfl, hp, rl⟩ := rv_lst k rx e
    exact ⟨p, vs, rfl, .inl ⟨.inl (.inl hp), fun q n => a.newT k rl h n⟩⟩
  · rename_i l e
    obtain ⟨p, vs, rfl, hb, hp, rl⟩ := rv_tup k rx e
    exact ⟨p, vs, rfl, .inr ⟨hp, a.dat k (.tup hb rl) h⟩⟩
  · rename_i l e
    obtain ⟨p, rfl, hp⟩ := rv_scr k rx e
    exact ⟨p, _, rfl, .inl ⟨hp, fun q n => a.newT k (RepL.ints l) h n⟩⟩
  · exact h.elim
/-- all, any of a list of truths -/
def blsOf : List D → Option (List Bool)
  | [] => some []
  | .bl b :: r => (blsOf r).map (b :: ·)
  | _ => none
theorem bls_rep {K : PySem.W.Frag} {B : Hp} : ∀ {vs : List V} {ds : List D} {bs : List Bool}, RepL K B vs ds → blsOf ds = some bs → vs = bs.map V.bl
  | _, _, _, .nil, e => by
    have := Option.some.inj e
    subst this
    rfl
  | _, _, bs, .cons h r, e => by
    cases h with
    | bl b =>
      unfold blsOf at e
      cases q : blsOf _ with
      | none => rw [q] at e; cases e
      | some cs =>
        rw [q] at e
        have := Option.some.inj e
        subst this
        rw [bls_rep r q]
        rfl
    | _ => cases e
theorem blsOf_map {α : Type} (f : α → Bool) : ∀ l : List α, blsOf (l.map fun a => D.bl (f a)) = some (l.map f)
  | [] => rfl
  | a :: r => by
    show (blsOf (r.map fun a => D.bl (f a))).map (f a :: ·) = _
    rw [blsOf_map f r]
    rfl
def fAllD (P : Val → Prop) : D → Prop
  | .lst l => onO (blsOf l) fun bs => P (.dat (.bl (bs.all id)))
  | _ => False
def fAll : F1 := fun x P => fAllD P x.d
def fAnyD (P : Val → Prop) : D → Prop
  | .lst l => onO (blsOf l) fun bs => P (.dat (.bl (bs.any id)))
  | _ => False
def fAny : F1 := fun x P => fAnyD P x.d
theorem rel_all : RelC1 X.K (rAll X.K) fAll := by
  intro B H x vx P Q k rx h a
  unfold fAll fAllD at h
  split at h
  · rename_i l e
    obtain ⟨bs, hb, h⟩ := onO_elim h
    obtain ⟨p, vs, rfl, hp, rl⟩ := rv_lst k rx e
    have ev := bls_rep rl hb
    subst ev
    exact ⟨p, bs, rfl, .inl (.inl hp), a.dat k (.bl _) h⟩
  · exact h.elim
theorem rel_any : RelC1 X.K (rAny X.K) fAny := by
  intro B H x vx P Q k rx h a
  unfold fAny fAnyD at h
  split at h
  · rename_i l e
    obtain ⟨bs, hb, h⟩ := onO_elim h
    obtain ⟨p, vs, rfl, hp, rl⟩ := rv_lst k rx e
    have ev := bls_rep rl hb
    subst ev
    exact ⟨p, bs, rfl, .inl (.inl hp), a.dat k (.bl _) h⟩
  · exact h.elim
/-- isinstance(x, T) -/
inductive Ty6 where
  | str | int | bool | tuple | list | dict
def Ty6.name : Ty6 → String
  | .str => "str" | .int => "int" | .bool => "bool" | .tuple => "tuple" | .list => "list" | .dict => "dict"
def D.isi : Ty6 → D → Bool
  | .str, .str _ => true
  | .int, .int _ => true
  | .int, .bl _ => true
  | .bool, .bl _ => true
  | .tuple, .tup _ => true
  | .list, .lst _ => true
  | .list, .scr _ => true
  | .dict, .dic _ => true
  | .dict, .draw => true
  | _, _ => false
/-- data of which isinstance may be asked -/
def D.plain : D → Bool
  | .ty _ => false
  | .scr _ => false
  | .obj _ => false
  | .exc _ _ => false
  | .drawl => false
  | .clo _ _ => false
  | _ => true
def fIsi (t : Ty6) : F1 := fun x P => x.d.plain = true ∧ P (.dat (.bl (x.d.isi t)))
theorem kit_all (t : Ty6) : kitB "NoneType" t.name = some false ∧ kitB "bool" t.name = some (D.isi t (.bl true)) ∧ kitB "int" t.name = some (D.isi t (.int 0)) ∧ kitB "str" t.name = some (D.isi t (.str ⟨#[]⟩)) ∧ kitB "tuple" t.name = some (D.isi t (.tup [])) ∧
    kitB "list" t.name = some (D.isi t (.lst [])) ∧ kitB "dict" t.name = some (D.isi t (.dic [])) := by
  cases t <;> exact ⟨by decide +kernel, by decide +kernel, by decide +kernel, by decide +kernel, by decide +kernel, by decide +kernel, by decide +kernel⟩
theorem kit_rep {K : PySem.W.Frag} {B H : Hp} {v : V} {x : Val} (k : Kp B H) (r : RepV K B H v x) (o : x.d.plain = true) (tk : ∀ a vs, v = .ref a → SqT K H a vs → TyX K H v (.type "tuple")) (t : Ty6) :
    ∃ n : String, TyX K H v (.type n) ∧ kitB n t.name = some (x.d.isi t) := by
  obtain ⟨k0, k1, k2, k3, k4, k5, k6⟩ := kit_all t
  cases x with
  | tmp c =>
    obtain ⟨p, rfl, n, w⟩ := r
    cases c with
    | lst ds =>
      obtain ⟨vs, h, _⟩ := w
      exact ⟨"list", .base (.lst h), by rw [k5]; cases t <;> rfl⟩
    | dic ds =>
      obtain ⟨vs, h, _⟩ := w
      exact ⟨"dict", .base (.dK h), by rw [k6]; cases t <;> rfl⟩
  | dat d =>
    cases r with
    | non => exact ⟨"NoneType", .base .non, by rw [k0]; cases t <;> rfl⟩
    | bl b => exact ⟨"bool", .base (.bl b), by rw [k1]; cases t <;> rfl⟩
    | int i => exact ⟨"int", .base (.int i), by rw [k2]; cases t <;> rfl⟩
    | str x => exact ⟨"str", .base (.str x), by rw [k3]; cases t <;> rfl⟩
    | ty n => cases o
    | scr h => cases o
    | obj a => cases o
    | exc hc h hp => cases o
    | clo h => cases o
    | drawl h => cases o
    | tup h r => exact ⟨"tuple", tk _ _ rfl (kp_t k h), by rw [k4]; cases t <;> rfl⟩
    | lst h r => exact ⟨"list", .base (.lst ((k _ _ h).1 DrawO.lst)), by rw [k5]; cases t <;> rfl⟩
    | dic h n r => exact ⟨"dict", .base (.dK ((k _ _ h).1 n)), by rw [k6]; cases t <;> rfl⟩
    | draw h d =>
      obtain ⟨u, hu, _, _, _, rfl, _⟩ := k.draw h d
      exact ⟨"dict", .base (.dK hu), by rw [k6]; cases t <;> rfl⟩
theorem tup_ty {K : PySem.W.Frag} {H : Hp} : ∀ a vs, SqT K H a vs → TyX K H (.ref a) (.type "tuple") := fun a vs h => by
  rcases h with (h | ⟨o, h⟩) | ⟨o, its, n, h1, h2, _⟩
  · exact .base (.tup h)
  · exact .fTuple h
  · exact .kTuple h1 h2
theorem q_isi (t : Ty6) {p p2 pos : Pos} {a : Expr} {y : Str} {da : DE} {fa : Bool} (hg : Gl X "isinstance") (hm : X.mg "isinstance" = none) (hg2 : Gl X y) (hm2 : X.mg y = none) (hv2 : bootBuiltins y = some (.type t.name)) (ha : PE X a (L X.K W fa da)) (hn : y ≠ "__name__" := by decide) (hd : (y == ("__debug__" : Str)) = false := by decide)
    (he : starEach [a, .Name y p2] X.env = (false, eval a X.env) :: starEach [.Name y p2] X.env := by rfl) (he2 : starEach [.Name y p2] X.env = (false, eval (.Name y p2) X.env) :: starEach [] X.env := by rfl) (hpl : (backTo pos (starEach [.Name y p2] X.env)).any (·.1) = false := by rfl) :
    PE X (.Call (.Name "isinstance" p) [a, .Name y p2] [] pos) (L X.K W true (dUn (fIsi t) da)) := by
  refine imE (pe_callB call_isi hg hm (by decide +kernel) (pa_cons ha (pa_cons (pe_bltn (v := .ty t.name) hg2 hm2 hv2 rfl hn hd) pa_nil he2) he) (by decide) (by decide) he hpl) fun s H Q ⟨B, r, xc, P, k, en, h, hx, hq⟩ => ⟨B, r, xc, _, k, en, h, hx, fun x vx H1 B1 z rx _ q => ?_⟩
  obtain ⟨o, q⟩ := q
  obtain ⟨n, ty, e⟩ := kit_rep z.sub rx o (fun a vs e h => by subst e; exact tup_ty a vs h) t
  exact ⟨x, .ty t.name, .type n, .type t.name, _, rfl, .ty _, ty, kit_ty e, hq _ (.dat (.bl _)) H1 B1 z (.bl _) (fun _ => Fr.dat) q⟩
/-! ### methods of texts -/
def RelM (K : PySem.W.Frag) (r : V → List V → Hp → VK → Prop) (f : F2) : Prop := RelR K (fun x y H Q => r x [y] H Q) f
/-- a method of a text with one argument -/
def dM1 (f : F2) (da db : DE) : DE := fun xc r P => da xc r fun x => asS (fun _ => db xc r fun y => f x y P) x.d
theorem l_m1 {rr : V → List V → Hp → VK → Prop} {f : F2} {da db : DE} {fa fb : Bool} (hr : RelM X.K rr f) (s : L2.St) (H : Hp) (Q : VK) (h : L X.K W true (dM1 f da db) s H Q) : tM1 rr (L X.K W fa da) (L X.K W fb db) s H Q := by
  obtain ⟨B, r, xc, P, k, en, h, hx, hq⟩ := h
  refine ⟨B, r, xc, _, k, en, h, hx, fun x vx H1 B1 s1 rx _ h1 => ?_⟩
  obtain ⟨z, e, h1⟩ := asS_elim h1
  · refine ⟨⟨z, rv_str rx e⟩, B1, r, xc, _, s1.sub, en.step s1, h1, fun cls d e H' B' st => hx cls d e H' B' (s1.trans st), fun y vy H2 B2 s2 ry _ h2 => ?_⟩
    exact hr B2 H2 x y vx vy P Q s2.sub (rx.step s2) ry h2 fun v z H3 B3 s3 rv fr p => hq v z H3 B3 ((s1.trans s2).trans s3) rv (fun _ => (fr.back s2).back s1) p
def fSplitD (P : Val → Prop) : D → D → Prop
  | .str a, .str b => ((b.length == 0) = false ∧ a.length + 2 ≤ sizeLine) ∧ P (.tmp (.lst ((Txt.split a b).map D.str)))
  | _, _ => False
def fSplit : F2 := fun x y P => fSplitD P x.d y.d
theorem q_split {o e : Expr} {apos pos : Pos} {da db : DE} {fa fb : Bool} (ho : PE X o (L X.K W fa da)) (he : PE X e (L X.K W fb db)) (hs : starEach [e] X.env = [(false, eval e X.env)] := by rfl) (hbase : attributeBase o "split" X.env (eval o X.env) = eval o X.env := by rfl) (hline : (apos.endLine == pos.line) = true := by rfl) :
    PE X (.Call (.Attribute o "split" apos) [e] [] pos) (L X.K W true (dM1 fSplit da db)) := imE (pe_split ho he hs hbase hline) (l_m1 (by
  intro B H x y vx vy P Q k rx ry h a
  unfold fSplit fSplitD at h
  split at h
  · rename_i u v e1 e2
    rw [rv_str rx e1, rv_str ry e2]
    exact ⟨u, v, rfl, rfl, h.1.1, h.1.2, fun p n => a.newL k (RepL.strs _) h.2 n⟩
  · exact h.elim))
def strsOf : List D → Option (List Str)
  | [] => some []
  | .str b :: r => (strsOf r).map (b :: ·)
  | _ => none
theorem strs_rep {K : PySem.W.Frag} {B : Hp} : ∀ {vs : List V} {ds : List D} {bs : List Str}, RepL K B vs ds → strsOf ds = some bs → vs = bs.map V.str
  | _, _, _, .nil, e => by
    have := Option.some.inj e
    subst this
    rfl
  | _, _, bs, .cons h r, e => by
    cases h with
    | str b =>
      unfold strsOf at e
      cases q : strsOf _ with
      | none => rw [q] at e; cases e
      | some cs =>
        rw [q] at e
        have := Option.some.inj e
        subst this
        rw [strs_rep r q]
        rfl
    | _ => cases e
theorem strsOf_map {α : Type} (f : α → Str) : ∀ l : List α, strsOf (l.map fun a => D.str (f a)) = some (l.map f)
  | [] => rfl
  | a :: r => by
    show (strsOf (r.map fun a => D.str (f a))).map (f a :: ·) = _
    rw [strsOf_map f r]
    rfl
def fJoinD (P : Val → Prop) : D → D → Prop
  | .str a, .lst l => onO (strsOf l) fun ys => (ys.map (·.length)).sum + ys.length * a.length ≤ 16777216 ∧ P (.dat (.str (Txt.join a ys)))
  | .str a, .tup l => onO (strsOf l) fun ys => (ys.map (·.length)).sum + ys.length * a.length ≤ 16777216 ∧ P (.dat (.str (Txt.join a ys)))
  | _, _ => False
def fJoin : F2 := fun x y P => fJoinD P x.d y.d
theorem q_join {o e : Expr} {apos pos : Pos} {da db : DE} {fa fb : Bool} (ho : PE X o (L X.K W fa da)) (he : PE X e (L X.K W fb db)) (hs : starEach [e] X.env = [(false, eval e X.env)] := by rfl) (hbase : attributeBase o "join" X.env (eval o X.env) = eval o X.env := by rfl) (hline : (apos.endLine == pos.line) = true := by rfl) :
    PE X (.Call (.Attribute o "join" apos) [e] [] pos) (L X.K W true (dM1 fJoin da db)) := imE (pe_join ho he hs hbase hline) (l_m1 (by
  intro B H x y vx vy P Q k rx ry h a
  unfold fJoin fJoinD at h
  split at h
  · rename_i u l e1 e2
    obtain ⟨ys, hy, h⟩ := onO_elim h
    rw [rv_str rx e1]
    obtain ⟨p, vs, rfl, hp, rl⟩ := rv_lst k ry e2
    have ev := strs_rep rl hy
    subst ev
    exact ⟨u, p, ys, rfl, rfl, .inl (.inl (.inl hp)), h.1, a.dat k (.str _) h.2⟩
  · rename_i u l e1 e2
    obtain ⟨ys, hy, h⟩ := onO_elim h
    rw [rv_str rx e1]
    obtain ⟨p, vs, rfl, _, hp, rl⟩ := rv_tup k ry e2
    have ev := strs_rep rl hy
    subst ev
    exact ⟨u, p, ys, rfl, rfl, .inr hp, h.1, a.dat k (.str _) h.2⟩
  · exact h.elim))
/-! ### dicts -/
def keyD : D → Option Key
  | .int i => some (.inl i)
  | .str x => some (.inr x)
  | _ => none
def putD (kvs : List (Key × D)) (k : Key) (v : D) : List (Key × D) :=
  if (kvs.any fun kv => decide (kv.1 = k)) = true then kvs.map (fun kv => if kv.1 = k then (kv.1, v) else kv) else kvs ++ [(k, v)]
def valD (kvs : List (Key × D)) (k : Key) : Option D := (kvs.find? fun kv => decide (kv.1 = k)).map (·.2)
theorem RepK.any {K : PySem.W.Frag} {B : Hp} {k : Key} : ∀ {vs : List (Key × V)} {ds : List (Key × D)}, RepK K B vs ds → (vs.any fun kv => decide (kv.1 = k)) = (ds.any fun kv => decide (kv.1 = k))
  | _, _, .nil => rfl
  | _, _, .cons h r => by
    rw [List.any_cons, List.any_cons, RepK.any r]
theorem RepK.put {K : PySem.W.Frag} {B : Hp} {k : Key} {v : V} {d : D} (h : Rep K B v d) {vs : List (Key × V)} {ds : List (Key × D)} (r : RepK K B vs ds) : RepK K B (putK vs k v) (putD ds k d) := by
  unfold putK putD
  rw [r.any]
  split
  · skip
    have g : ∀ {vs : List (Key × V)} {ds : List (Key × D)}, RepK K B vs ds → RepK K B (vs.map fun kv => if kv.1 = k then (kv.1, v) else kv) (ds.map fun kv => if kv.1 = k then (kv.1, d) else kv) := by
      intro vs
      induction vs with
      | nil => intro ds r; cases r; exact .nil
      | cons a vs ih =>
        intro ds r
        cases r with
        | @cons k2 v2 _ d2 _ h2 r2 =>
          rw [List.map_cons, List.map_cons]
          by_cases e : k2 = k
          · rw [if_pos (show (k2, v2).1 = k from e), if_pos (show (k2, d2).1 = k from e)]
            exact .cons h (ih r2)
          · rw [if_neg (show ¬ (k2, v2).1 = k from e), if_neg (show ¬ (k2, d2).1 = k from e)]
            exact .cons h2 (ih r2)
    exact g r
  · have g : ∀ {vs : List (Key × V)} {ds : List (Key × D)}, RepK K B vs ds → RepK K B (vs ++ [(k, v)]) (ds ++ [(k, d)]) := by
      intro vs
      induction vs with
      | nil => intro ds r; cases r; exact .cons h .nil
      | cons a vs ih =>
        intro ds r
        cases r with
        | cons h2 r2 => exact .cons h2 (ih r2)
    exact g r
theorem RepK.val {K : PySem.W.Frag} {B : Hp} {k : Key} {d : D} : ∀ {vs : List (Key × V)} {ds : List (Key × D)}, RepK K B vs ds → valD ds k = some d → ∃ v, valV vs k = some v ∧ Rep K B v d
  | _, _, .nil, e => by cases e
  | (k2, v2) :: vs, (_, d2) :: ds, .cons h r, e => by
    by_cases z : k2 = k
    · subst z
      have e2 : d2 = d := by simpa [valD] using e
      subst e2
      exact ⟨v2, by simp [valV], h⟩
    · obtain ⟨v, q1, q2⟩ := RepK.val (k := k) (d := d) r (by simpa [valD, List.find?_cons, z] using e)
      exact ⟨v, by rw [valV_neg (p := (k2, v2)) z]; exact q1, q2⟩
theorem RepK.val_none {K : PySem.W.Frag} {B : Hp} {k : Key} : ∀ {vs : List (Key × V)} {ds : List (Key × D)}, RepK K B vs ds → valD ds k = none → valV vs k = none
  | _, _, .nil, e => rfl
  | (k2, v2) :: vs, (_, d2) :: ds, .cons h r, e => by
    by_cases z : k2 = k
    · subst z
      simp [valD] at e
    · rw [valV_neg (p := (k2, v2)) z]
      exact RepK.val_none (k := k) r (by simpa [valD, List.find?_cons, z] using e)
/-- the pairs of a display -/
def dPairs : List (DE × DE) → DX → DEnv → (List (D × D) → Prop) → Prop
  | [], _, _, P => P []
  | (dk, dv) :: l, xc, r, P => dk xc r fun x => dv xc r fun y => asD (fun d => dPairs l xc r fun ps => P ((x.d, d) :: ps)) y
def keysD : List (D × D) → Option (List (Key × D))
  | [] => some []
  | (k, v) :: r => match keyD k, keysD r with
    | some q, some l => some ((q, v) :: l)
    | _, _ => none
def mergeD (kvs more : List (Key × D)) : List (Key × D) := more.foldl (fun acc kv => putD acc kv.1 kv.2) kvs
theorem RepK.merge {K : PySem.W.Frag} {B : Hp} : ∀ {more : List (Key × V)} {md : List (Key × D)}, RepK K B more md → ∀ {vs : List (Key × V)} {ds : List (Key × D)}, RepK K B vs ds → RepK K B (mergeK vs more) (mergeD ds md)
  | _, _, .nil, _, _, r => r
  | _, _, .cons h m, _, _, r => RepK.merge m (r.put h)
def dDisp (l : List (DE × DE)) : DE := fun xc r P => dPairs l xc r fun ps => onO (keysD ps) fun kds => kds.length ≤ 15 ∧ P (.tmp (.dic (mergeD [] kds)))
/-- the derivations of a display's pairs -/
inductive QPs (X : Cx) (W : WX) (pos : Pos) : List (Option Expr) → List Expr → List (TE × TE) → List (DE × DE) → Prop
  | nil : QPs X W pos [] [] [] []
  | cons {k v : Expr} {ks : List (Option Expr)} {vs : List Expr} {ts : List (TE × TE)} {l : List (DE × DE)} {dk dv : DE} (hk : PE X k (L X.K W true dk)) (hv : PE X v (L X.K W true dv)) (r : QPs X W pos ks vs ts l) :
      QPs X W pos (some k :: ks) (v :: vs) ((L X.K W true dk, L X.K W true dv) :: ts) ((dk, dv) :: l)
theorem QPs.pps {pos : Pos} {ks : List (Option Expr)} {vs : List Expr} {ts : List (TE × TE)} {l : List (DE × DE)} (h : QPs X W pos ks vs ts l) : PPs X pos ks vs ts := by
  induction h with
  | nil => exact pps_nil
  | cons hk hv _ ih => exact pps_cons hk hv ih
theorem key_v {K : PySem.W.Frag} {B H : Hp} {v : V} {x : Val} {k : Key} (r : RepV K B H v x) (e : keyD x.d = some k) : v = kV k := by
  cases h : x.d with
  | int i =>
    rw [h] at e
    cases e
    exact rv_int r h
  | str i =>
    rw [h] at e
    cases e
    exact rv_str r h
  | _ => rw [h] at e; cases e
theorem l_pairs {pos : Pos} {ks : List (Option Expr)} {vs : List Expr} {ts : List (TE × TE)} {l : List (DE × DE)} (h : QPs X W pos ks vs ts l) : ∀ (s : L2.St) (B H : Hp) (r : DEnv) (xc : DX) (P : List (D × D) → Prop) (Q : List (V × V) → Hp → Prop), Kp B H → EnvRep X.K B H s r → dPairs l xc r P →
    (∀ cls d e H' B', Step B H B' H' → ExcRep X.K B' cls d e → xc e r → W cls d s H') →
    (∀ (ps : List (V × V)) (pd : List (D × D)) H' B', Step B H B' H' → P pd → (∀ kds, keysD pd = some kds → ∃ kvs, ps = kvs.map (fun kv => (kV kv.1, kv.2)) ∧ RepK X.K B' kvs kds) → Q ps H') → tPairs ts s H Q := by
  induction h with
  | nil => exact fun s B H r xc P Q k en h hx hq => hq [] [] H B (.refl k) h fun kds e => ⟨[], rfl, by cases e; exact .nil⟩
  | cons hk hv _ ih =>
    intro s B H r xc P Q k en h hx hq
    refine ⟨B, r, xc, _, k, en, h, hx, fun x vx H1 B1 z1 rx _ q1 => ?_⟩
    refine ⟨B1, r, xc, _, z1.sub, en.step z1, q1, fun cls d e H' B' st => hx cls d e H' B' (z1.trans st), fun y vy H2 B2 z2 ry _ q2 => ?_⟩
    cases vy with
    | tmp c => exact q2.elim
    | dat d =>
      have z12 := z1.trans z2
      refine ih s B2 H2 r xc _ _ z2.sub (en.step z12) q2 (fun cls d e H' B' st => hx cls d e H' B' (z12.trans st)) fun ps pd H3 B3 z3 p3 w => ?_
      refine hq _ _ H3 B3 (z12.trans z3) p3 fun kds e => ?_
      unfold keysD at e
      split at e
      · rename_i q l e1 e2
        cases e
        obtain ⟨kvs, rfl, rk⟩ := w l e2
        exact ⟨(q, y) :: kvs, by rw [key_v rx e1]; rfl, .cons (Rep.mono z3.kp ry) rk⟩
      · cases e
theorem q_disp {pos : Pos} {ks : List (Option Expr)} {vs : List Expr} {ts : List (TE × TE)} {l : List (DE × DE)} (h : QPs X W pos ks vs ts l) (hall : ks.all (·.isSome) = true) (hl : ks.length = vs.length) (h0 : ks ≠ []) (h15 : ks.length ≤ 15) : PE X (.Dict ks vs pos) (L X.K W true (dDisp l)) := by
  refine imE (pe_disp h.pps hall hl h0 h15) fun s H Q ⟨B, r, xc, P, k, en, hd, hx, hq⟩ => fun p n => ?_
  have z0 : Step B H B (upd H p (.dK [])) := .tmp k n
  refine l_pairs h s B _ r xc _ _ z0.sub (en.step z0) hd (fun cls d e H' B' st => hx cls d e H' B' (z0.trans st)) fun ps pd H2 B2 z2 p2 w => ?_
  obtain ⟨kds, e, p2⟩ := onO_elim p2
  · obtain ⟨kvs, rfl, rk⟩ := w kds e
    have hp := z2.out p (.dK []) upd_same (k.none n)
    have lk : ∀ {a : List (Key × V)} {b : List (Key × D)}, RepK X.K B2 a b → a.length = b.length := by
      intro a
      induction a with
      | nil => intro b r; cases r; rfl
      | cons x a ih => intro b r; cases r with | cons h r => exact congrArg (· + 1) (ih r)
    refine ⟨hp.1, kvs, rfl, by rw [lk rk]; exact p2.1, ?_⟩
    have z : Step B H B2 (upd H2 p (.dK (mergeK [] kvs))) := ⟨z2.kp, z2.sub.upd hp.2, fun a o ha nb => by
      have ne : a ≠ p := ne_of_none ha n
      rw [upd_ne ne]
      exact z2.out a o (by rw [upd_ne ne]; exact ha) nb⟩
    exact hq (.ref p) (.tmp (.dic (mergeD [] kds))) _ B2 z ⟨p, rfl, hp.2, _, upd_same, RepK.merge rk .nil⟩ (fun _ q c e _ => by cases e; exact n) p2.2
def dNewD : DE := fun _ _ P => P (.tmp (.dic []))
theorem q_newD {pos : Pos} : PE X (.Dict [] [] pos) (L X.K W true dNewD) := imE pe_dnewK fun s H Q ⟨B, r, xc, P, k, en, h, hx, hq⟩ => fun p n =>
  hq (.ref p) (.tmp (.dic [])) _ B (.tmp k n) ⟨p, rfl, k.none n, [], upd_same, .nil⟩ (fun _ q c e _ => by cases e; exact n) h
end
end Dl
/-! Dl5: draws. -/
namespace Dl
open PySem PySem.Spec PyProof.Rows L2
section
variable {X : Cx} {W : WX}
def drIn (key : Str) (n : Int) : Prop := 0 ≤ n ∧ (key = "mixed" → n < 2147483647)
/-- d["rest"], d["mixed"] of a draw: any number that may stand there -/
def dDrawGet (i : Nat) (key : Str) : DE := fun _ r P => match lk r i with
  | some (.dat .draw) => ∀ n : Int, drIn key n → P (.dat (.int n))
  | _ => False
theorem key_ne : ("rest" : Str) ≠ "mixed" := by decide
theorem q_drawGet (i : Nat) {x key : Str} {j : Nat} {p1 p2 pos : Pos} (hk : key = "rest" ∨ key = "mixed") (hu : X.A.units + 1 < cLine) (hx : PE X (.Name x p1) (tVar i)) (hs : NoSl (.Constant (.str key) j p2)) :
    PE X (.Subscript (.Name x p1) (.Constant (.str key) j p2) pos) (L X.K W true (dDrawGet i key)) := by
  refine imE (pe_dget hu hx pe_str hs) fun s H Q ⟨B, r, xc, P, k, en, h, hx, hq⟩ => ?_
  unfold dDrawGet at h
  split at h
  · rename_i e
    obtain ⟨v, hv, rv⟩ := en.at_ i _ e
    cases rv with
    | @draw a o hb d =>
      obtain ⟨u, hu, a1, a2, mo, rfl, b1, b2, b3, b4, b5⟩ := k.draw hb d
      refine ⟨.ref a, hv, a, ?_⟩
      rcases hk with rfl | rfl
      · exact ⟨.int a1, rfl, DGet.k (k := .inr "rest") hu, hq _ (.dat (.int a1)) H B (.refl k) (.int a1) (fun _ => Fr.dat) (h a1 ⟨b1, fun z => absurd z key_ne⟩)⟩
      · exact ⟨.int a2, rfl, DGet.k (k := .inr "mixed") hu, hq _ (.dat (.int a2)) H B (.refl k) (.int a2) (fun _ => Fr.dat) (h a2 ⟨b2, fun _ => b3⟩)⟩
  · exact h.elim
theorem map_same {k : Key} {v : V} : ∀ {mo : List (Key × V)}, (∀ p ∈ mo, p.1 ≠ k) → (mo.map fun kv => if kv.1 = k then (kv.1, v) else kv) = mo
  | [], _ => rfl
  | a :: r, h => by
    rw [List.map_cons, if_neg (h a (List.mem_cons_self ..)), map_same fun p hp => h p (List.mem_cons_of_mem _ hp)]
theorem put_rest {mo : List (Key × V)} (a b n : V) (h : ∀ p ∈ mo, p.1 ≠ .inr "rest") : putK ((.inr "rest", a) :: (.inr "mixed", b) :: mo) (.inr "rest") n = (.inr "rest", n) :: (.inr "mixed", b) :: mo := by
  unfold putK
  rw [if_pos (by rw [List.any_cons]; simp), List.map_cons, List.map_cons, map_same h, if_pos rfl, if_neg (fun e => key_ne (Sum.inr.inj e).symm)]
theorem put_mixed {mo : List (Key × V)} (a b n : V) (h : ∀ p ∈ mo, p.1 ≠ .inr "mixed") : putK ((.inr "rest", a) :: (.inr "mixed", b) :: mo) (.inr "mixed") n = (.inr "rest", a) :: (.inr "mixed", n) :: mo := by
  unfold putK
  rw [if_pos (by rw [List.any_cons, List.any_cons]; simp), List.map_cons, List.map_cons, map_same h, if_neg (fun e => key_ne (Sum.inr.inj e)), if_pos rfl]
/-- d["rest"] = e, d["mixed"] = e of a draw -/
def dDrawPut (i : Nat) (key : Str) (de : DE) : DS := fun xc E r => match lk r i with
  | some (.dat .draw) => de xc r fun x => asI (fun n => drIn key n ∧ E.nx r) x.d
  | _ => False
theorem qs_drawPut (i : Nat) {x key : Str} {j : Nat} {p1 p2 p3 pos : Pos} {e : Expr} {de : DE} {f : Bool} (hk : key = "rest" ∨ key = "mixed") (hu : X.A.units + 1 < cLine) (hx : PE X (.Name x p1) (tVar i)) (he : PE X e (L X.K W f de))
    (hs : swapsWith e (some (.Subscript (.Name x p1) (.Constant (.str key) j p2) p3)) pos.line X.env = pure false := by rfl) :
    PS X (.Assign [.Subscript (.Name x p1) (.Constant (.str key) j p2) p3] e pos) (LS X.K W (dDrawPut i key de)) := by
  refine imS (ps_dput hu hx pe_str he hs) fun E s H ⟨B, r, xc, De, k, en, h, hx, nx, bk, ct, rt⟩ => ?_
  unfold dDrawPut at h
  split at h
  · rename_i el
    refine ⟨B, r, xc, _, k, en, h, fun cls d e H' B' z => hx cls d e s r H' B' z.s (en.step z), fun v x H1 B1 z rv _ q => ?_⟩
    obtain ⟨n, en2, q⟩ := asI_elim q
    · have ev := rv_int rv en2
      subst ev
      obtain ⟨vd, hv, rd⟩ := (en.step z).at_ i _ el
      cases rd with
      | @draw a o hb d =>
        obtain ⟨u, hu1, a1, a2, mo, rfl, b1, b2, b3, b4, b5⟩ := z.sub.draw hb d
        have lm : ((.inr "rest", V.int a1) :: (.inr "mixed", V.int a2) :: mo : List (Key × V)).length < sizeLine := by
          rw [List.length_cons, List.length_cons]
          exact Nat.lt_of_le_of_lt (Nat.add_le_add_right (Nat.add_le_add_right b4 1) 1) (by decide)
        rcases hk with rfl | rfl
        · have e0 := put_rest (V.int a1) (V.int a2) (V.int n) fun p hp => (b5 p hp).1
          have z2 : Step B1 H1 B1 (upd H1 a (.dK (putK ((.inr "rest", V.int a1) :: (.inr "mixed", V.int a2) :: mo) (.inr "rest") (V.int n)))) := .draw z.sub hb (.inl d) (.inl ⟨d, by rw [e0]; exact ⟨n, a2, mo, rfl, q.1.1, b2, b3, b4, b5⟩⟩)
          exact ⟨.ref a, hv, a, _, rfl, DPut.k (k := .inr "rest") hu1 lm, nx _ _ _ _ (z.trans z2).s (en.step (z.trans z2)) q.2⟩
        · have e0 := put_mixed (V.int a1) (V.int a2) (V.int n) fun p hp => (b5 p hp).2
          have z2 : Step B1 H1 B1 (upd H1 a (.dK (putK ((.inr "rest", V.int a1) :: (.inr "mixed", V.int a2) :: mo) (.inr "mixed") (V.int n)))) := .draw z.sub hb (.inl d) (.inl ⟨d, by rw [e0]; exact ⟨a1, n, mo, rfl, b1, q.1.1, q.1.2 rfl, b4, b5⟩⟩)
          exact ⟨.ref a, hv, a, _, rfl, DPut.k (k := .inr "mixed") hu1 lm, nx _ _ _ _ (z.trans z2).s (en.step (z.trans z2)) q.2⟩
  · exact h.elim
/-- a new dict that is a draw -/
def dDraw (de : DE) : DE := fun xc r P => de xc r fun x => (∃ (a b : Int) (m : List (Key × D)), x = .tmp (.dic ((.inr "rest", .int a) :: (.inr "mixed", .int b) :: m)) ∧ 0 ≤ a ∧ 0 ≤ b ∧ b < 2147483647 ∧ m.length ≤ 20 ∧ ∀ p ∈ m, p.1 ≠ .inr "rest" ∧ p.1 ≠ .inr "mixed") ∧ P (.dat .draw)
theorem RepK.keys {K : PySem.W.Frag} {B : Hp} : ∀ {vs : List (Key × V)} {ds : List (Key × D)}, RepK K B vs ds → vs.map (·.1) = ds.map (·.1)
  | _, _, .nil => rfl
  | _, _, .cons _ r => by rw [List.map_cons, List.map_cons, RepK.keys r]
theorem q_draw {e : Expr} {de : DE} (h : PE X e (L X.K W true de)) : PE X e (L X.K W true (dDraw de)) := by
  refine imE h fun s H Q ⟨B, r, xc, P, k, en, h, hx, hq⟩ => ⟨B, r, xc, _, k, en, h, hx, fun v x H1 B1 s1 rx fr q => ?_⟩
  obtain ⟨⟨a, b, m, rfl, h1, h2, h3, h4, h5⟩, q⟩ := q
  obtain ⟨p, rfl, n, kvs, hp, rk⟩ := rx
  have np := fr rfl p _ rfl rfl
  have ekv : ∃ mo, kvs = (.inr "rest", .int a) :: (.inr "mixed", .int b) :: mo ∧ mo.map (·.1) = m.map (·.1) := by
    cases rk with
    | cons r1 rk =>
      cases rk with
      | cons r2 rk =>
        cases r1
        cases r2
        exact ⟨_, rfl, rk.keys⟩
  obtain ⟨mo, rfl, ek⟩ := ekv
  have dr : DrawD (.dK ((.inr "rest", .int a) :: (.inr "mixed", .int b) :: mo)) := ⟨a, b, mo, rfl, h1, h2, h3, by rw [← List.length_map (f := (·.1)), ek, List.length_map]; exact h4, fun p hp => by
    have hm : p.1 ∈ m.map (·.1) := by rw [← ek]; exact List.mem_map.mpr ⟨p, hp, rfl⟩
    obtain ⟨q, hq, e⟩ := List.mem_map.mp hm
    rw [← e]
    exact h5 q hq⟩
  have z : Step B H (upd B1 p (.dK ((.inr "rest", .int a) :: (.inr "mixed", .int b) :: mo))) H1 := ⟨s1.kp.trans (.new n), fun c u e => by
    by_cases z : c = p
    · subst z
      rw [upd_same] at e
      cases e
      exact ⟨fun _ => hp, fun d => ⟨_, hp, .refl d⟩⟩
    · rw [upd_ne z] at e
      exact s1.sub c u e, fun c u e nb => by
    have ne : c ≠ p := fun z => by rw [z, np] at e; cases e
    rw [upd_ne ne]
    exact s1.out c u e nb⟩
  exact hq (.ref p) (.dat .draw) H1 _ z (.draw upd_same dr) (fun _ => Fr.dat) q
end
end Dl
/-! Dl6: constants of the top, defs that are not called, the law's entry. -/
namespace Dl
open PySem PySem.Spec PyProof.Rows L2
def strV : Value → Option Str
  | .str x _ => some x
  | _ => none
def isTupC : Value → Bool
  | .type n => n == "tuple"
  | _ => false
def cstTup (o : Obj) (ks : List Str) : Bool := isTupC o.cls && (match o.data with
  | .seq its _ => decide (its.toList.map strV = ks.map some) && decide (its.size ≤ sizeLine)
  | _ => false)
theorem vals_of_strs {K : PySem.W.Frag} {B : Hp} : ∀ {us : List Value} {ks : List Str}, us.map strV = ks.map some → Vals (ks.map V.str) us
  | [], [], _ => .nil
  | [], _ :: _, h => nomatch h
  | _ :: _, [], h => nomatch h
  | u :: us, k :: ks, h => by
    rw [List.map_cons, List.map_cons] at h
    injection h with h1 h2
    cases u <;> first
      | (cases h1; exact .cons ⟨_, rfl⟩ (vals_of_strs (K := K) (B := B) h2))
      | cases h1
theorem isTupC_is : ∀ {v : Value}, isTupC v = true → v = .type "tuple"
  | .type n, h => by
    have e : n = "tuple" := by simpa [isTupC] using h
    rw [e]
theorem cstTup_rep {K : PySem.W.Frag} {B : Hp} {a : Addr} {o : Obj} {ks : List Str} (r : K.lookup a = some o) (t : cstTup o ks = true) : Rep K B (.ref a) (.tup (ks.map D.str)) := by
  unfold cstTup at t
  have t := Bool.and_eq_true_iff.mp t
  obtain ⟨t1, t2⟩ := t
  have hc : o.cls = .type "tuple" := isTupC_is t1
  cases e : o.data with
  | seq its n =>
    rw [e] at t2
    have t2 := Bool.and_eq_true_iff.mp t2
    have h1 := of_decide_eq_true t2.1
    have h2 := of_decide_eq_true t2.2
    refine .tup (.inr ⟨o, its, n, r, hc, e, h2, vals_of_strs (K := K) (B := B) h1⟩) (RepL.strs ks)
  | _ => rw [e] at t2; cases t2
def cstV (u : Value) (d : D) : Bool := match u, d with
  | .int i _, .int j => i == j
  | .str x _, .str y => x == y
  | .bool x, .bl y => x == y
  | .none, .non => true
  | _, _ => false
theorem cstV_rep {K : PySem.W.Frag} {u : Value} {d : D} (t : cstV u d = true) : RelV (dV d) u ∧ ∀ B, Rep K B (dV d) d := by
  unfold cstV at t
  split at t
  · rename_i i tk j
    have e : i = j := by simpa using t
    subst e
    exact ⟨⟨_, rfl⟩, fun B => .int i⟩
  · rename_i i tk j
    have e : i = j := by simpa using t
    subst e
    exact ⟨⟨_, rfl⟩, fun B => .str i⟩
  · rename_i i j
    have e : i = j := by simpa using t
    subst e
    exact ⟨rfl, fun B => .bl i⟩
  · exact ⟨rfl, fun B => .non⟩
  · cases t
section
variable {P : Program} {w : World} {K : PySem.W.Frag} {mg : Str → Option Value} {base : Heap}
/-- a promise that nobody can ask for -/
theorem fn_no {CX : CXT} {k : Nat} {f : Addr} {fd : FuncData} {ps : List Str} {sp : DSp} (no : ∀ ds xc R, ¬ sp ds xc R) : FnOk P w K mg base CX k f fd ps (spD K sp) :=
  have z : ∀ vs H Q E, ¬ spD K sp vs H Q E := fun vs H Q E ⟨_, ds, xc, R, _, _, h, _⟩ => no ds xc R h
  ⟨fun vs H Q E h => absurd h (z vs H Q E), fun A outer s H args us vs Q E _ _ _ _ h => absurd h (z vs H Q E)⟩
theorem law_in {sp : DSp} {H : Hp} {a : Addr} {ns : List Int} (hS : SqL K H a (ns.map V.int)) (h : sp [.scr ns] (fun _ => False) (fun v => v = .dat (.bl true))) : spD K sp [.ref a] H (fun v _ => v = .bl true) fun _ _ _ => False :=
  ⟨H, [.scr ns], fun _ => False, fun v => v = .dat (.bl true), .refl H, .cons (.scr hS) .nil, h, fun _ _ _ _ _ _ _ z => z.elim, fun v x H' B' z rv fr p => by subst p; cases rv; rfl⟩
end
/-! ### plain facts for the readings -/
theorem mulOk {i j : Int} (hi : -(2 ^ 64) < i ∧ i < 2 ^ 64) (hj : -(2 ^ 64) < j ∧ j < 2 ^ 64) : CMulW i j :=
  wide_mul (a := 64) (b := 64) (by omega) (by omega) (by decide) (by decide) (by decide)
theorem divOk {i j : Int} (hj : 0 < j) (hl : j < 2 ^ 100) : CDivW i j := wide_div (b := 100) hj (by omega) (by decide) (by decide)
theorem atI_get {α : Type} {l : List α} {i : Int} (h0 : 0 ≤ i) (h : i < (l.length : Int)) : ∃ d, atI l i = some d ∧ d ∈ l := by
  have hk : i.toNat < l.length := by omega
  have e : i = ((i.toNat : Nat) : Int) := by omega
  have q : atI l ((i.toNat : Nat) : Int) = some l[i.toNat] := atI_nat (by rw [List.getElem?_eq_getElem hk])
  rw [← e] at q
  exact ⟨_, q, List.getElem_mem hk⟩
end Dl
/-! Dl7: the equations by which readings are opened. Printed by mkeqs.py. -/
namespace Dl
open PySem PySem.Spec PyProof.Rows L2
theorem y001 (C : Int → Int → Prop) (g : Int → Int → D) (P : Val → Prop) (i j : Int) : (fID C g P (.int i) (.int j)) = (C i j ∧ P (.dat (g i j))) := rfl
theorem y002 (g : Int → Int → D) (P : Val → Prop) (i j : Int) : (fI0D g P (.int i) (.int j)) = (P (.dat (g i j))) := rfl
theorem y003 (P : Val → Prop) (i : Int) : (fNegD P (.int i)) = (P (.dat (.int (-i)))) := rfl
theorem y004 (P : Val → Prop) (i j : Int) : (fAddD P (.int i) (.int j)) = (P (.dat (.int (i + j)))) := rfl
theorem y005 (P : Val → Prop) (i j : Str) : (fAddD P (.str i) (.str j)) = (i.length + j.length ≤ sizeLine ∧ P (.dat (.str (i ++ j)))) := rfl
theorem y006 (P : Val → Prop) (i j : List D) : (fAddD P (.lst i) (.lst j)) = (i.length + j.length ≤ sizeLine ∧ P (.tmp (.lst (i ++ j)))) := rfl
theorem y007 (P : Val → Prop) (i j : List D) : (fAddD P (.tup i) (.tup j)) = (i.length + j.length ≤ sizeLine ∧ P (.dat (.tup (i ++ j)))) := rfl
theorem y008 (P : Val → Prop) (x : D) : (fIsD P x .non) = (P (.dat (.bl x.isN))) := rfl
theorem y009 (P : Val → Prop) (a b : Bool) : (fIsD P (.bl a) (.bl b)) = (P (.dat (.bl (decide (a = b))))) := rfl
theorem y010 (P : Val → Prop) (x : D) : (fIsNotD P x .non) = (P (.dat (.bl (!x.isN)))) := rfl
theorem y011 (P : Val → Prop) (a b : Bool) : (fIsNotD P (.bl a) (.bl b)) = (P (.dat (.bl (!decide (a = b))))) := rfl
theorem y012 (neg : Bool) (P : Val → Prop) (x : D) (l : List D) : (fInD neg P x (.lst l)) = ((flatD x = true ∧ l.all flatD = true) ∧ P (.dat (.bl (if neg then !inD x l else inD x l)))) := rfl
theorem y013 (neg : Bool) (P : Val → Prop) (x : D) (l : List D) : (fInD neg P x (.tup l)) = ((flatD x = true ∧ l.all flatD = true) ∧ P (.dat (.bl (if neg then !inD x l else inD x l)))) := rfl
theorem y014 (neg : Bool) (P : Val → Prop) (x : D) (z : Str) : (fInD neg P x (.str z)) = (∃ c, x = .str ⟨#[c]⟩ ∧ P (.dat (.bl (if neg then !decide (c ∈ z.cps.toList) else decide (c ∈ z.cps.toList))))) := rfl
theorem y015 (P : Bool → Prop) : (fTruD P .non) = (P false) := rfl
theorem y016 (P : Bool → Prop) (b : Bool) : (fTruD P (.bl b)) = (P b) := rfl
theorem y017 (P : Bool → Prop) (i : Int) : (fTruD P (.int i)) = (P (i != 0)) := rfl
theorem y018 (P : Bool → Prop) (y : Str) : (fTruD P (.str y)) = (y.length ≤ sizeLine ∧ P ((y.length : Int) != 0)) := rfl
theorem y019 (P : Bool → Prop) (l : List D) : (fTruD P (.tup l)) = (P (!l.isEmpty)) := rfl
theorem y020 (P : Bool → Prop) (l : List D) : (fTruD P (.lst l)) = (P (!l.isEmpty)) := rfl
theorem y021 (P : Bool → Prop) (l : List (Key × D)) : (fTruD P (.dic l)) = (P (!l.isEmpty)) := rfl
theorem y022 (P : Bool → Prop) (l : List Int) : (fTruD P (.scr l)) = (P (!l.isEmpty)) := rfl
theorem y023 (P : Val → Prop) (l : List D) (i : Int) : (fIxD P (.tup l) (.int i)) = (onO (atI l i) fun d => P (.dat d)) := rfl
theorem y024 (P : Val → Prop) (l : List D) (i : Int) : (fIxD P (.lst l) (.int i)) = (onO (atI l i) fun d => P (.dat d)) := rfl
theorem y025 (P : Val → Prop) (l : List Int) (i : Int) : (fIxD P (.scr l) (.int i)) = (onO (atI l i) fun n => P (.dat (.int n))) := rfl
theorem y026 (P : Val → Prop) (z : Str) (i : Int) : (fIxD P (.str z) (.int i)) = (z.length ≤ sizeLine ∧ onO (atI z.cps.toList i) fun c => P (.dat (.str ⟨#[c]⟩))) := rfl
theorem y027 (P : Val → Prop) (z : Str) : (fLenD P (.str z)) = (z.length ≤ sizeLine ∧ P (.dat (.int z.length))) := rfl
theorem y028 (P : Val → Prop) (l : List D) : (fLenD P (.tup l)) = (P (.dat (.int l.length))) := rfl
theorem y029 (P : Val → Prop) (l : List D) : (fLenD P (.lst l)) = (P (.dat (.int l.length))) := rfl
theorem y030 (P : Val → Prop) (l : List Int) : (fLenD P (.scr l)) = (P (.dat (.int l.length))) := rfl
theorem y031 (P : Val → Prop) (i : Int) : (fAbsD P (.int i)) = (P (.dat (.int (if i < 0 then -i else i)))) := rfl
theorem y032 (P : Val → Prop) (i : Int) : (fIntD P (.int i)) = (P (.dat (.int i))) := rfl
theorem y033 (P : Val → Prop) (b : Bool) : (fIntD P (.bl b)) = (P (.dat (.int (if b then 1 else 0)))) := rfl
theorem y034 (P : Val → Prop) (l : List D) : (fListD P (.lst l)) = (P (.tmp (.lst l))) := rfl
theorem y035 (P : Val → Prop) (l : List D) : (fTupleD P (.lst l)) = (P (.dat (.tup l))) := rfl
theorem y036 (P : Val → Prop) (l : List D) : (fListD P (.tup l)) = (P (.tmp (.lst l))) := rfl
theorem y037 (P : Val → Prop) (l : List D) : (fTupleD P (.tup l)) = (P (.dat (.tup l))) := rfl
theorem y038 (P : Val → Prop) (l : List Int) : (fListD P (.scr l)) = (P (.tmp (.lst (l.map D.int)))) := rfl
theorem y039 (P : Val → Prop) (l : List Int) : (fTupleD P (.scr l)) = (P (.dat (.tup (l.map D.int)))) := rfl
theorem y040 (P : Val → Prop) (l : List D) : (fAllD P (.lst l)) = (onO (blsOf l) fun bs => P (.dat (.bl (bs.all id)))) := rfl
theorem y041 (P : Val → Prop) (l : List D) : (fAnyD P (.lst l)) = (onO (blsOf l) fun bs => P (.dat (.bl (bs.any id)))) := rfl
theorem y042 (P : Val → Prop) (a b : Str) : (fSplitD P (.str a) (.str b)) = (((b.length == 0) = false ∧ a.length + 2 ≤ sizeLine) ∧ P (.tmp (.lst ((Txt.split a b).map D.str)))) := rfl
theorem y043 (P : Val → Prop) (a : Str) (l : List D) : (fJoinD P (.str a) (.lst l)) = (onO (strsOf l) fun ys => (ys.map (·.length)).sum + ys.length * a.length ≤ 16777216 ∧ P (.dat (.str (Txt.join a ys)))) := rfl
theorem y044 (P : Val → Prop) (a : Str) (l : List D) : (fJoinD P (.str a) (.tup l)) = (onO (strsOf l) fun ys => (ys.map (·.length)).sum + ys.length * a.length ≤ 16777216 ∧ P (.dat (.str (Txt.join a ys)))) := rfl
theorem y045 (P : Bool → Prop) (b : Bool) : (asB P (.bl b)) = (P b) := rfl
theorem y046 (P : D → Prop) (d : D) : (asD P (.dat d)) = (P d) := rfl
theorem y047 (P : D → Prop) (c : Ct) : (asD P (.tmp c)) = (False) := rfl
theorem y048 (P : Int → Prop) (i : Int) : (asI P (.int i)) = (P i) := rfl
theorem y049 (P : Str → Prop) (s : Str) : (asS P (.str s)) = (P s) := rfl
theorem y050 (P : List D → Prop) (l : List D) : (fItD P (.lst l)) = (P l) := rfl
theorem y051 (P : List D → Prop) (l : List D) : (fItD P (.tup l)) = (P l) := rfl
theorem y052 (P : List D → Prop) (l : List Int) : (fItD P (.scr l)) = (P (l.map D.int)) := rfl
theorem y053 (P : List D → Prop) (y : Str) : (fItD P (.str y)) = (P (y.cps.toList.map fun c => D.str ⟨#[c]⟩)) := rfl
theorem y054 (lo hi : Option Int) (P : Val → Prop) (l : List D) : (fSlD lo hi P (.lst l)) = (P (.tmp (.lst (cutD l lo hi)))) := rfl
theorem y055 (lo hi : Option Int) (P : Val → Prop) (l : List D) : (fSlD lo hi P (.tup l)) = (P (.dat (.tup (cutD l lo hi)))) := rfl
theorem y056 (lo hi : Option Int) (P : Val → Prop) (z : Str) : (fSlD lo hi P (.str z)) = (z.length ≤ sizeLine ∧ P (.dat (.str (cutS z lo hi)))) := rfl
theorem y057 (P : List (D × D) → Prop) (xc : DX) (r : DEnv) : (dPairs [] xc r P) = (P []) := rfl
theorem y058 (P : List (D × D) → Prop) (xc : DX) (r : DEnv) (dk dv : DE) (l : List (DE × DE)) : (dPairs ((dk, dv) :: l) xc r P) = (dk xc r fun x => dv xc r fun y => asD (fun d => dPairs l xc r fun ps => P ((x.d, d) :: ps)) y) := rfl
theorem y059 (P : D → Prop) (d : D) : (onO (some d) P) = (P d) := rfl
theorem y060 (d : D) : ((Val.dat d).d) = (d) := rfl
theorem y061 (c : Ct) : ((Val.tmp c).d) = (c.d) := rfl
theorem y062 (l : List D) : ((Ct.lst l).d) = (.lst l) := rfl
theorem y063 (l : List (Key × D)) : ((Ct.dic l).d) = (.dic l) := rfl
theorem y064 (d : D) : ((Val.dat d).safe) = (True) := rfl
theorem y065 (c : Ct) : ((Val.tmp c).safe) = (c.safe) := rfl
theorem y066 (l : List D) : ((Ct.lst l).safe) = (True) := rfl
theorem y067 (A B : Prop) : (ifB true A B) = (A) := rfl
theorem y068 (A B : Prop) : (ifB false A B) = (B) := rfl
theorem y069 : (!true) = (false) := rfl
theorem y070 : (!false) = (true) := rfl
theorem y071 (A B : Bool) : (if true = true then A else B) = (A) := rfl
theorem y072 (A B : Bool) : (if false = true then A else B) = (B) := rfl
theorem y073 : (D.isi .str (.non)) = (false) := rfl
theorem y074 (x : Bool) : (D.isi .str (.bl x)) = (false) := rfl
theorem y075 (x : Int) : (D.isi .str (.int x)) = (false) := rfl
theorem y076 (x : Str) : (D.isi .str (.str x)) = (true) := rfl
theorem y077 (x : String) : (D.isi .str (.ty x)) = (false) := rfl
theorem y078 (x : List D) : (D.isi .str (.tup x)) = (false) := rfl
theorem y079 (x : List D) : (D.isi .str (.lst x)) = (false) := rfl
theorem y080 (x : List (Key × D)) : (D.isi .str (.dic x)) = (false) := rfl
theorem y081 : (D.isi .str (.draw)) = (false) := rfl
theorem y082 (x : List Int) : (D.isi .str (.scr x)) = (false) := rfl
theorem y083 (x : Addr) : (D.isi .str (.obj x)) = (false) := rfl
theorem y084 : (D.isi .int (.non)) = (false) := rfl
theorem y085 (x : Bool) : (D.isi .int (.bl x)) = (true) := rfl
theorem y086 (x : Int) : (D.isi .int (.int x)) = (true) := rfl
theorem y087 (x : Str) : (D.isi .int (.str x)) = (false) := rfl
theorem y088 (x : String) : (D.isi .int (.ty x)) = (false) := rfl
theorem y089 (x : List D) : (D.isi .int (.tup x)) = (false) := rfl
theorem y090 (x : List D) : (D.isi .int (.lst x)) = (false) := rfl
theorem y091 (x : List (Key × D)) : (D.isi .int (.dic x)) = (false) := rfl
theorem y092 : (D.isi .int (.draw)) = (false) := rfl
theorem y093 (x : List Int) : (D.isi .int (.scr x)) = (false) := rfl
theorem y094 (x : Addr) : (D.isi .int (.obj x)) = (false) := rfl
theorem y095 : (D.isi .bool (.non)) = (false) := rfl
theorem y096 (x : Bool) : (D.isi .bool (.bl x)) = (true) := rfl
theorem y097 (x : Int) : (D.isi .bool (.int x)) = (false) := rfl
theorem y098 (x : Str) : (D.isi .bool (.str x)) = (false) := rfl
theorem y099 (x : String) : (D.isi .bool (.ty x)) = (false) := rfl
theorem y100 (x : List D) : (D.isi .bool (.tup x)) = (false) := rfl
theorem y101 (x : List D) : (D.isi .bool (.lst x)) = (false) := rfl
theorem y102 (x : List (Key × D)) : (D.isi .bool (.dic x)) = (false) := rfl
theorem y103 : (D.isi .bool (.draw)) = (false) := rfl
theorem y104 (x : List Int) : (D.isi .bool (.scr x)) = (false) := rfl
theorem y105 (x : Addr) : (D.isi .bool (.obj x)) = (false) := rfl
theorem y106 : (D.isi .tuple (.non)) = (false) := rfl
theorem y107 (x : Bool) : (D.isi .tuple (.bl x)) = (false) := rfl
theorem y108 (x : Int) : (D.isi .tuple (.int x)) = (false) := rfl
theorem y109 (x : Str) : (D.isi .tuple (.str x)) = (false) := rfl
theorem y110 (x : String) : (D.isi .tuple (.ty x)) = (false) := rfl
theorem y111 (x : List D) : (D.isi .tuple (.tup x)) = (true) := rfl
theorem y112 (x : List D) : (D.isi .tuple (.lst x)) = (false) := rfl
theorem y113 (x : List (Key × D)) : (D.isi .tuple (.dic x)) = (false) := rfl
theorem y114 : (D.isi .tuple (.draw)) = (false) := rfl
theorem y115 (x : List Int) : (D.isi .tuple (.scr x)) = (false) := rfl
theorem y116 (x : Addr) : (D.isi .tuple (.obj x)) = (false) := rfl
theorem y117 : (D.isi .list (.non)) = (false) := rfl
theorem y118 (x : Bool) : (D.isi .list (.bl x)) = (false) := rfl
theorem y119 (x : Int) : (D.isi .list (.int x)) = (false) := rfl
theorem y120 (x : Str) : (D.isi .list (.str x)) = (false) := rfl
theorem y121 (x : String) : (D.isi .list (.ty x)) = (false) := rfl
theorem y122 (x : List D) : (D.isi .list (.tup x)) = (false) := rfl
theorem y123 (x : List D) : (D.isi .list (.lst x)) = (true) := rfl
theorem y124 (x : List (Key × D)) : (D.isi .list (.dic x)) = (false) := rfl
theorem y125 : (D.isi .list (.draw)) = (false) := rfl
theorem y126 (x : List Int) : (D.isi .list (.scr x)) = (true) := rfl
theorem y127 (x : Addr) : (D.isi .list (.obj x)) = (false) := rfl
theorem y128 : (D.isi .dict (.non)) = (false) := rfl
theorem y129 (x : Bool) : (D.isi .dict (.bl x)) = (false) := rfl
theorem y130 (x : Int) : (D.isi .dict (.int x)) = (false) := rfl
theorem y131 (x : Str) : (D.isi .dict (.str x)) = (false) := rfl
theorem y132 (x : String) : (D.isi .dict (.ty x)) = (false) := rfl
theorem y133 (x : List D) : (D.isi .dict (.tup x)) = (false) := rfl
theorem y134 (x : List D) : (D.isi .dict (.lst x)) = (false) := rfl
theorem y135 (x : List (Key × D)) : (D.isi .dict (.dic x)) = (true) := rfl
theorem y136 : (D.isi .dict (.draw)) = (true) := rfl
theorem y137 (x : List Int) : (D.isi .dict (.scr x)) = (false) := rfl
theorem y138 (x : Addr) : (D.isi .dict (.obj x)) = (false) := rfl
theorem y139 : (D.plain (.non)) = (true) := rfl
theorem y140 : (flatD (.non)) = (true) := rfl
theorem y141 : (D.isN (.non)) = (true) := rfl
theorem y142 (x : Bool) : (D.plain (.bl x)) = (true) := rfl
theorem y143 (x : Bool) : (flatD (.bl x)) = (true) := rfl
theorem y144 (x : Bool) : (D.isN (.bl x)) = (false) := rfl
theorem y145 (x : Int) : (D.plain (.int x)) = (true) := rfl
theorem y146 (x : Int) : (flatD (.int x)) = (true) := rfl
theorem y147 (x : Int) : (D.isN (.int x)) = (false) := rfl
theorem y148 (x : Str) : (D.plain (.str x)) = (true) := rfl
theorem y149 (x : Str) : (flatD (.str x)) = (true) := rfl
theorem y150 (x : Str) : (D.isN (.str x)) = (false) := rfl
theorem y151 (x : String) : (D.plain (.ty x)) = (false) := rfl
theorem y152 (x : String) : (flatD (.ty x)) = (false) := rfl
theorem y153 (x : String) : (D.isN (.ty x)) = (false) := rfl
theorem y154 (x : List D) : (D.plain (.tup x)) = (true) := rfl
theorem y155 (x : List D) : (flatD (.tup x)) = (false) := rfl
theorem y156 (x : List D) : (D.isN (.tup x)) = (false) := rfl
theorem y157 (x : List D) : (D.plain (.lst x)) = (true) := rfl
theorem y158 (x : List D) : (flatD (.lst x)) = (false) := rfl
theorem y159 (x : List D) : (D.isN (.lst x)) = (false) := rfl
theorem y160 (x : List (Key × D)) : (D.plain (.dic x)) = (true) := rfl
theorem y161 (x : List (Key × D)) : (flatD (.dic x)) = (false) := rfl
theorem y162 (x : List (Key × D)) : (D.isN (.dic x)) = (false) := rfl
theorem y163 : (D.plain (.draw)) = (true) := rfl
theorem y164 : (flatD (.draw)) = (false) := rfl
theorem y165 : (D.isN (.draw)) = (false) := rfl
theorem y166 (x : List Int) : (D.plain (.scr x)) = (false) := rfl
theorem y167 (x : List Int) : (flatD (.scr x)) = (false) := rfl
theorem y168 (x : List Int) : (D.isN (.scr x)) = (false) := rfl
theorem y169 (x : Addr) : (D.plain (.obj x)) = (false) := rfl
theorem y170 (x : Addr) : (flatD (.obj x)) = (false) := rfl
theorem y171 (x : Addr) : (D.isN (.obj x)) = (false) := rfl
/-- one statement, what follows it kept shut -/
theorem seq_k {t u : DS} {xc : DX} {E : DEnds} {r : DEnv} (h : ∀ K : DEnv → Prop, K = u xc E → t xc { E with nx := K } r) : dSeq t u xc E r := h _ rfl
end Dl
/-! Dl8: loops and comprehensions in the forms one uses. -/
namespace Dl
open PySem PySem.Spec PyProof.Rows L2
theorem take_snoc {α : Type} {l : List α} {i : Nat} {x : α} (h : l[i]? = some x) : l.take (i + 1) = l.take i ++ [x] := by
  rw [List.take_add_one, h]
  rfl
theorem small_sz {n : Nat} (h : n ≤ 100000) : n ≤ sizeLine := Nat.le_trans h (by decide)
theorem small_lt {n : Nat} (h : n ≤ 100000) : n < sizeLine := Nat.lt_of_le_of_lt h (by decide)
section
variable {tg : DG} {elt : DE} {cond : DT} {own : List Nat} {r : DEnv} {P : Val → Prop} {items : List D}
/-- [f(x) for x in items] -/
theorem lc_map (f : D → D) (hl : items.length ≤ 100000) (turn : ∀ x ∈ items, ∀ R : D → Prop, R (f x) → tg x (wp r own) fun r2 => elt X0 r2 fun y => asD R y) (fin : P (.tmp (.lst (items.map f)))) : Lc tg dYes elt own r P items := by
  refine ⟨fun i acc => acc = (items.take i).map f, rfl, fun i x acc hx hi => ?_, fun acc hi => by rw [hi, List.take_length]; exact fin⟩
  subst hi
  have q := turn x (List.mem_of_getElem? hx) (fun d => ((items.take i).map f).length < sizeLine ∧ ((items.take i).map f) ++ [d] = (items.take (i + 1)).map f) ⟨small_lt (by
    rw [List.length_map, List.length_take]
    omega), by rw [take_snoc hx, List.map_append]; rfl⟩
  exact q
/-- [.. for x in items], each of the things made in Q with its item -/
theorem lc_rel (Q : D → D → Prop) (hl : items.length ≤ 100000) (turn : ∀ x ∈ items, ∀ R : D → Prop, (∀ d, Q x d → R d) → tg x (wp r own) fun r2 => elt X0 r2 fun y => asD R y)
    (fin : ∀ acc : List D, acc.length = items.length → (∀ (i : Nat) (x d : D), items[i]? = some x → acc[i]? = some d → Q x d) → P (.tmp (.lst acc))) : Lc tg dYes elt own r P items := by
  refine ⟨fun i acc => acc.length = i ∧ i ≤ items.length ∧ ∀ (j : Nat) (x d : D), items[j]? = some x → acc[j]? = some d → Q x d, ⟨rfl, Nat.zero_le _, fun j x d _ h => by simp at h⟩, fun i x acc hx hi => ?_, fun acc hi => fin acc hi.1 hi.2.2⟩
  obtain ⟨h1, h2, h3⟩ := hi
  have hlt : i < items.length := (List.getElem?_eq_some_iff.mp hx).1
  have q := turn x (List.mem_of_getElem? hx) (fun d => acc.length < sizeLine ∧ (acc ++ [d]).length = i + 1 ∧ i + 1 ≤ items.length ∧ ∀ (j : Nat) (y e : D), items[j]? = some y → (acc ++ [d])[j]? = some e → Q y e) fun d hd => ⟨small_lt (by omega), by rw [List.length_append, h1]; rfl, hlt, fun j y e hy he => by
    rcases Nat.lt_or_ge j acc.length with z | z
    · rw [List.getElem?_append_left z] at he
      exact h3 j y e hy he
    · rw [List.getElem?_append_right z] at he
      have e0 : j - acc.length = 0 := by
        cases q : j - acc.length with
        | zero => rfl
        | succ n => rw [q] at he; cases he
      have ej : j = i := by omega
      subst ej
      rw [e0] at he
      cases he
      rw [hx] at hy
      cases hy
      exact hd⟩
  exact q
/-- [f(x) for x in items if c(x)] -/
theorem lc_filter (c : D → Bool) (f : D → D) (hl : items.length ≤ 100000)
    (turn : ∀ x ∈ items, ∀ (Rt : D → Prop) (Rf : Prop), (c x = true → Rt (f x)) → (c x = false → Rf) → tg x (wp r own) fun r2 => cond X0 r2 fun b => ifB b (elt X0 r2 fun y => asD Rt y) Rf)
    (fin : P (.tmp (.lst ((items.filter c).map f)))) : Lc tg cond elt own r P items := by
  refine ⟨fun i acc => acc = ((items.take i).filter c).map f, rfl, fun i x acc hx hi => ?_, fun acc hi => by rw [hi, List.take_length]; exact fin⟩
  subst hi
  have len : (((items.take i).filter c).map f).length < sizeLine := small_lt (by
    have h1 := List.length_filter_le c (items.take i)
    rw [List.length_take] at h1
    rw [List.length_map]
    omega)
  refine turn x (List.mem_of_getElem? hx) _ _ (fun h => ⟨len, ?_⟩) (fun h => ?_)
  · show _ = ((items.take (i + 1)).filter c).map f
    rw [take_snoc hx, List.filter_append, List.map_append, List.filter_cons_of_pos h]
    rfl
  · show _ = ((items.take (i + 1)).filter c).map f
    rw [take_snoc hx, List.filter_append, List.filter_cons_of_neg (by rw [h]; exact Bool.false_ne_true)]
    simp
end
/-- [.. for x in items], each of the things made in Q -/
theorem lc_all {tg : DG} {elt : DE} {own : List Nat} {r : DEnv} {P : Val → Prop} {items : List D} (Q : D → Prop) (hl : items.length ≤ 100000) (turn : ∀ x ∈ items, ∀ R : D → Prop, (∀ d, Q d → R d) → tg x (wp r own) fun r2 => elt X0 r2 fun y => asD R y)
    (fin : ∀ acc : List D, acc.length = items.length → (∀ d ∈ acc, Q d) → P (.tmp (.lst acc))) : Lc tg dYes elt own r P items :=
  lc_rel (fun _ d => Q d) hl turn fun acc h1 h2 => fin acc h1 fun d hd => by
    obtain ⟨i, hi, e⟩ := List.getElem_of_mem hd
    exact h2 i items[i] d (List.getElem?_eq_getElem (by omega)) (by rw [List.getElem?_eq_getElem hi, e])
theorem mem_rng {lo : Int} {n : Nat} {x : D} (h : x ∈ rngD lo n) : ∃ i : Nat, i < n ∧ x = .int (lo + i) := by
  unfold rngD at h
  obtain ⟨i, hi, rfl⟩ := List.mem_map.mp h
  exact ⟨i, List.mem_range.mp hi, rfl⟩
theorem rng_length (lo : Int) (n : Nat) : (rngD lo n).length = n := by
  unfold rngD
  rw [List.length_map, List.length_range]
/-! ### texts -/
theorem len_app (a b : Str) : (a ++ b).length = a.length + b.length := by
  show (a.cps ++ b.cps).size = a.cps.size + b.cps.size
  exact Array.size_append
theorem joinL_nil : ∀ l : List (List Nat), TL.joinL [] l = l.flatten
  | [] => rfl
  | [p] => by simp [TL.joinL]
  | p :: q :: r => by
    show p ++ ([] ++ TL.joinL [] (q :: r)) = _
    rw [List.nil_append, joinL_nil (q :: r)]
    rfl
/-- signs put together -/
theorem join_chars (cs : List Nat) : (Txt.join "" (cs.map fun c => (⟨#[c]⟩ : Str))).cps.toList = cs := by
  show TL.tl _ = cs
  rw [TL.join_eq, TL.tl_join]
  show TL.joinL [] _ = cs
  rw [joinL_nil, List.map_map]
  induction cs with
  | nil => rfl
  | cons c r ih =>
    rw [List.map_cons, List.flatten_cons, ih]
    rfl
theorem inD_strs (s : Str) (l : List Str) : inD (.str s) (l.map D.str) = decide (s ∈ l) := by
  unfold inD inV
  rw [List.map_map, List.any_map]
  induction l with
  | nil => rfl
  | cons a r ih =>
    rw [List.any_cons, ih]
    show ((a == s) || decide (s ∈ r)) = decide (s ∈ a :: r)
    by_cases e : a = s
    · subst e
      simp
    · have e2 : ¬ s = a := fun z => e z.symm
      simp [e, e2]
/-- signs that may stand in a text -/
def okS (s : Str) : Prop := ∀ c ∈ s.cps.toList, c < 0x110000
theorem okS_strOk {s : Str} (h : okS s) : PyData.strOk s = true := by
  unfold PyData.strOk
  rw [← Array.all_toList]
  exact List.all_eq_true.mpr fun c hc => decide_eq_true (h c hc)
theorem app_toList (a b : Str) : (a ++ b).cps.toList = a.cps.toList ++ b.cps.toList := by
  show (a.cps ++ b.cps).toList = _
  exact Array.toList_append
theorem okS_app {a b : Str} (ha : okS a) (hb : okS b) : okS (a ++ b) := fun c hc => by
  rw [app_toList] at hc
  rcases List.mem_append.mp hc with h | h
  · exact ha c h
  · exact hb c h
theorem okS_cut {a : Str} (ha : okS a) (lo hi : Option Int) : okS (cutS a lo hi) := fun c hc => ha c (List.mem_of_mem_drop (List.mem_of_mem_take hc))
theorem okS_rev {a : Str} (ha : okS a) : okS (revS a) := fun c hc => ha c (List.mem_reverse.mp hc)
theorem okS_one {c : Nat} (h : c < 0x110000) : okS ⟨#[c]⟩ := fun d hd => by
  have e : d = c := by simpa using hd
  rw [e]
  exact h
theorem pyL_strs : ∀ l : List Str, pyL (l.map D.str) = l.map PyData.str
  | [] => rfl
  | s :: r => congrArg (PyData.str s :: ·) (pyL_strs r)
theorem okL_strs : ∀ l : List Str, okL (l.map D.str) = true
  | [] => rfl
  | s :: r => okL_strs r
theorem depth_strs : ∀ l : List Str, PyData.depthAll (l.map PyData.str) = 0
  | [] => rfl
  | s :: r => by
    show max 0 (PyData.depthAll (r.map PyData.str)) = 0
    rw [depth_strs r]
    rfl
theorem eqOk_strs {l : List Str} (h : ∀ s ∈ l, okS s) : eqOk (.lst (l.map D.str)) = true := by
  unfold eqOk SeqAt.shaped
  rw [Bool.and_eq_true, Bool.and_eq_true]
  refine ⟨okL_strs l, ?_, decide_eq_true ?_⟩
  · show PyData.canLayAll0 (pyL (l.map D.str)) = true
    rw [pyL_strs]
    rw [PyProof.Rows.canLayAll_strs']
    exact List.all_eq_true.mpr fun s hs => okS_strOk (h s hs)
  · show PyData.depthAll (pyL (l.map D.str)) + 1 ≤ 64
    rw [pyL_strs, depth_strs]
    decide
theorem eqOk_nil : eqOk (.lst []) = true := rfl
theorem eqd_nil (l : List D) : eqd (.lst l) (.lst []) = l.isEmpty := by
  cases l <;> rfl
theorem eqOk_bl (b : Bool) : eqOk (.bl b) = true := rfl
theorem eqd_bl (a b : Bool) : eqd (.bl a) (.bl b) = (a == b) := rfl
theorem flat_strs (l : List Str) : (l.map D.str).all flatD = true := by
  rw [List.all_map]
  exact List.all_eq_true.mpr fun _ _ => rfl
end Dl
/-! Dl9: zip of lists, tuples and texts in any mix. -/
namespace Dl
open PySem PySem.Spec PyProof.Rows L2
/-- what zip walks along -/
inductive Sk where
  | t (a : Addr) | l (a : Addr) | s (y : Str)
def Sk.v : Sk → V
  | .t a => .ref a
  | .l a => .ref a
  | .s y => .str y
def Sk.has (K : PySem.W.Frag) (H : Hp) : Sk → List V → Prop
  | .t a, xs => SqT K H a xs
  | .l a, xs => SqL K H a xs
  | .s y, xs => xs = y.cps.toList.map fun c => V.str ⟨#[c]⟩
def Sk.at_ (it : Addr) : Sk → Nat → Heap → Prop
  | .t a, i, h => h.IsTupleIter it a i
  | .l a, i, h => h.IsListIter it a i
  | .s y, i, h => ∃ t, h.IsStrIter it (strIterType y) y t i
def Sk.base : Sk → List Addr
  | .t a => [a]
  | .l a => [a]
  | .s _ => []
theorem Sk.at_keep {k : Sk} {it : Addr} {i : Nat} {h h' : Heap} (q : k.at_ it i h) (e : ∀ o, h.get? it = some o → h'.get? it = some o) : k.at_ it i h' := by
  cases k with
  | t a => exact Heap.IsTupleIter.at q e
  | l a => exact Heap.IsListIter.at q e
  | s y =>
    obtain ⟨t, o, ho, r⟩ := q
    exact ⟨t, o, e o ho, r⟩
theorem Sk.at_obj {k : Sk} {it : Addr} {i : Nat} {h : Heap} (q : k.at_ it i h) : ∃ o, h.get? it = some o ∧ ∀ v, o.data ≠ .cell v := by
  cases k with
  | t a =>
    obtain ⟨o, e, _, d⟩ := q
    exact ⟨o, e, fun v z => by rw [d] at z; cases z⟩
  | l a =>
    obtain ⟨o, e, _, d⟩ := q
    exact ⟨o, e, fun v z => by rw [d] at z; cases z⟩
  | s y =>
    obtain ⟨t, o, e, _, d⟩ := q
    exact ⟨o, e, fun v z => by rw [d] at z; cases z⟩
section
variable {X : Cx} {pins : List (Addr × Obj)} {σ : L2.St} {H : Hp} {s : Shared}
theorem getU {xs : List V} {us : List Value} (r : Vals xs us) {i : Nat} {u : Value} (h : us[i]? = some u) : ∃ x, xs[i]? = some x ∧ RelV x u := by
  have hl : i < xs.length := by rw [r.length]; exact (List.getElem?_eq_some_iff.mp h).1
  obtain ⟨u', h1, h2⟩ := r.get (List.getElem?_eq_getElem hl)
  rw [h] at h1
  cases h1
  exact ⟨_, List.getElem?_eq_getElem hl, h2⟩
theorem Sk.inj (I : Inv X pins σ H s) {k : Sk} {xs ys : List V} (h : k.has X.K H xs) (g : k.has X.K H ys) : xs = ys := by
  cases k with
  | t a => exact I.tuple_inj h g
  | l a => exact I.list_inj h g
  | s y => exact (show xs = _ from h).trans (show ys = _ from g).symm
theorem Sk.draws (I : Inv X pins σ H s) (hc : X.calm = true) {k : Sk} {xs : List V} (h : k.has X.K H xs) {it : Addr} {i : Nat} (hi : k.at_ it i s.heap) (hne : it ∉ k.base) :
    ∃ n P St, Draws X.prog X.w X.A.in1 it (it :: k.base) n P St ∧ n = xs.length ∧ St i s.heap ∧ (∀ i h, St i h → k.at_ it i h) ∧ ∀ i u, P i u → ∃ x, xs[i]? = some x ∧ RelV x u := by
  have hh : X.A.in1.handled = none := I.ok.hd hc
  cases k with
  | t a =>
    obtain ⟨its, rv, p, _⟩ := I.tuple h
    refine ⟨_, _, _, Draws.tuple hh it a (fun e => hne (by rw [e]; exact List.mem_singleton.mpr rfl)) its.toArray, ?_, ⟨hi, p⟩, fun i h q => q.1, fun i u hu => ?_⟩
    · rw [List.size_toArray, rv.length]
    · exact getU rv (by simpa using hu)
  | l a =>
    obtain ⟨its, rv, p, _⟩ := I.list h
    refine ⟨_, _, _, Draws.list hh it a (fun e => hne (by rw [e]; exact List.mem_singleton.mpr rfl)) its.toArray, ?_, ⟨hi, p.isList⟩, fun i h q => q.1, fun i u hu => ?_⟩
    · rw [List.size_toArray, rv.length]
    · exact getU rv (by simpa using hu)
  | s y =>
    obtain ⟨t, hi⟩ := hi
    have h : xs = _ := h
    subst h
    refine ⟨_, _, _, Draws.text hh it y t, ?_, hi, fun i h q => ⟨t, q⟩, fun i u hu => ?_⟩
    · rw [List.length_map, Array.length_toList]
    · obtain ⟨c, tk, e, rfl⟩ := hu
      refine ⟨.str ⟨#[c]⟩, ?_, ⟨tk, rfl⟩⟩
      rw [List.getElem?_map, Array.getElem?_toList, e]
      rfl
theorem Sk.begins (I : Inv X pins σ H s) {k : Sk} {xs : List V} (h : k.has X.K H xs) {u : Value} (r : RelV k.v u) :
    ∃ o Hh, Begins u o Hh ∧ Hh s.heap ∧ (∀ (h' : Heap) (it : Addr), h'.get? it = some o → k.at_ it 0 h') ∧ ∀ b ∈ k.base, b < s.heap.objs.size := by
  cases k with
  | t a =>
    cases r
    obtain ⟨its, rv, p, _⟩ := I.tuple h
    obtain ⟨o1, ho1, _⟩ := id p
    exact ⟨_, _, begins_tuple a its.toArray, p, fun h' it e => ⟨_, e, rfl, rfl⟩, fun b hb => by rw [List.mem_singleton.mp hb]; exact Heap.lt_size ho1⟩
  | l a =>
    cases r
    obtain ⟨its, rv, p, _⟩ := I.list h
    exact ⟨_, _, begins_list a its.toArray, p.isList, fun h' it e => ⟨_, e, rfl, rfl⟩, fun b hb => by rw [List.mem_singleton.mp hb]; exact p.lt⟩
  | s y =>
    obtain ⟨t, rfl⟩ := r
    exact ⟨_, _, begins_text y t, trivial, fun h' it e => ⟨t, _, e, rfl, rfl⟩, fun b hb => nomatch hb⟩
end
/-- zip of two, as they stand at each turn -/
def ItzS (K : PySem.W.Frag) (a b : Sk) : It :=
  ⟨fun i H => ∃ (xs ys : List V) (x y : V), a.has K H xs ∧ b.has K H ys ∧ xs[i]? = some x ∧ ys[i]? = some y,
    fun i H v H' => ∃ T x y, v = .ref T ∧ H T = none ∧ H' = upd H T (.tup [x, y]) ∧ (∀ xs, a.has K H xs → xs[i]? = some x) ∧ ∀ ys, b.has K H ys → ys[i]? = some y,
    fun i H => ∃ xs ys : List V, a.has K H xs ∧ b.has K H ys ∧ i ≤ xs.length ∧ i ≤ ys.length ∧ (i = xs.length ∨ i = ys.length)⟩
theorem turn_zipS {P : Program} {w : World} {K : PySem.W.Frag} {elts : List Expr} {kk : Nat} {tpos : Pos} {a b : Sk} {z TI TO i1 i2 : Addr} (S : ZipSep2 z TI TO i1 i2 (i1 :: a.base) (i2 :: b.base)) (n1 : i1 ∉ a.base) (n2 : i2 ∉ b.base) :
    Turn P w K (.Tuple elts kk tpos) (ItzS K a b) [z, TI, TO, i1, i2] z (fun i h => IsZip h z TI TO .none ∧ IsTupOf2 h TI (.ref i1) (.ref i2) ∧ (∃ x y, IsTupOf2 h TO x y) ∧ a.at_ i1 i h ∧ b.at_ i2 i h) where
  mem := by simp
  obj := fun i h st c hc => by
    obtain ⟨hz, hTI, ⟨x, y, hTO⟩, h1, h2⟩ := st
    have e' : c = z ∨ c = TI ∨ c = TO ∨ c = i1 ∨ c = i2 := by simpa using hc
    rcases e' with q | q | q | q | q
    · rw [q]; exact ⟨_, hz, fun v q => nomatch q⟩
    · rw [q]; exact ⟨_, hTI, fun v q => nomatch q⟩
    · rw [q]; exact ⟨_, hTO, fun v q => nomatch q⟩
    · rw [q]; exact (Sk.at_obj h1)
    · rw [q]; exact (Sk.at_obj h2)
  keep := fun i h h' st k => by
    obtain ⟨hz, hTI, ⟨x, y, hTO⟩, h1, h2⟩ := st
    exact ⟨k z (by simp) _ hz, k TI (by simp) _ hTI, ⟨x, y, k TO (by simp) _ hTO⟩, Sk.at_keep h1 fun o q => k i1 (by simp) o q, Sk.at_keep h2 fun o q => k i2 (by simp) o q⟩
  item := by
    intro X hP hw hK hc i pins s σ H E I hf st hg
    subst hP hw hK
    obtain ⟨hz, hTI, ⟨x0, y0, hTO⟩, h1, h2⟩ := st
    obtain ⟨xs, ys, x, y, hqx, hqy, hx, hy⟩ := hg
    obtain ⟨m1, P1, St1, D1, e1, st1, bk1, vl1⟩ := Sk.draws I hc hqx h1 n1
    obtain ⟨m2, P2, St2, D2, e2, st2, bk2, vl2⟩ := Sk.draws I hc hqy h2 n2
    subst e1 e2
    have hzl : z < s.heap.objs.size := Heap.lt_size hz
    refine wpAny_pyNext_zipD2_item S D1 D2 hz hTI hTO st1 st2 (List.getElem?_eq_some_iff.mp hx).1 (List.getElem?_eq_some_iff.mp hy).1 fun u u2 h' tk p1 p2 z' TO' h1' h2' hT hsz hk => ?_
    obtain ⟨x', hx', ru⟩ := vl1 i u p1
    obtain ⟨y', hy', ru2⟩ := vl2 i u2 p2
    rw [hx] at hx'
    cases hx'
    rw [hy] at hy'
    cases hy'
    refine ⟨_, rfl, wpAny_letOwnedTupleGo_zip (s := { s with heap := h', toks := tk }) z' fun h'' z'' sb => ?_⟩
    have hT2 : h''.get? s.heap.objs.size = some { cls := .type "tuple", data := .seq #[u, u2] } := (sb.2 _ (Nat.ne_of_gt hzl)).trans hT
    have new : ObjOk X.prog X.w (upd H s.heap.objs.size (.tup [x, y])) h'' s.heap.objs.size (.tup [x, y]) :=
      ⟨by show 2 ≤ sizeLine; decide, [u, u2], .cons ru (.cons ru2 .nil), ⟨_, hT2, rfl, _, rfl⟩⟩
    have I1 : Inv X pins σ (upd H s.heap.objs.size (.tup [x, y])) { s with heap := h'', toks := tk } :=
      I.turnedNew (t' := tk) (ch := [z, TI, TO, i1, i2]) (fun c o hb q => (sb.2 c (fun q' => hb (by simp [q']))).trans (hk c o (fun q' => hb (by simp [q'])) (fun q' => hb (by simp [q'])) (fun q' => hb (by simp [q'])) (fun q' => hb (by simp [q'])) q)) hf (Nat.le_refl _) new
    refine ⟨.ref s.heap.objs.size, _, I1, rfl, ⟨_, x, y, rfl, I.hok.fresh (Nat.le_refl _), rfl, fun l hl => by rw [Sk.inj I hl hqx]; exact hx, fun l hl => by rw [Sk.inj I hl hqy]; exact hy⟩, ⟨z'', ?_, ⟨u, u2, ?_⟩, ?_, ?_⟩, fun c hcm => ?_⟩
    · exact (sb.2 _ S.TIz).trans (hk _ _ S.TIz S.TITO S.TIi1 S.TIi2 hTI)
    · exact (sb.2 _ S.TOz).trans TO'
    · exact Sk.at_keep (bk1 _ _ h1') fun o q => (sb.2 _ (fun e => S.zi1 e.symm)).trans q
    · exact Sk.at_keep (bk2 _ _ h2') fun o q => (sb.2 _ (fun e => S.zi2 e.symm)).trans q
    · have hlt : c < s.heap.objs.size := by
        have e' : c = z ∨ c = TI ∨ c = TO ∨ c = i1 ∨ c = i2 := by simpa using hcm
        rcases e' with q | q | q | q | q
        · rw [q]; exact hzl
        · rw [q]; exact Heap.lt_size hTI
        · rw [q]; exact Heap.lt_size hTO
        · rw [q]; obtain ⟨_, e1, _⟩ := (Sk.at_obj h1); exact Heap.lt_size e1
        · rw [q]; obtain ⟨_, e2, _⟩ := (Sk.at_obj h2); exact Heap.lt_size e2
      rw [upd_ne (Nat.ne_of_lt hlt)]
      exact (hf c hcm).1
  done := by
    intro X hP hw hK hc i pins s σ H E I hf st hg
    subst hP hw hK
    obtain ⟨hz, hTI, ⟨x0, y0, hTO⟩, h1, h2⟩ := st
    obtain ⟨xs, ys, hqx, hqy, le1, le2, hend⟩ := hg
    obtain ⟨m1, P1, St1, D1, e1, st1, bk1, vl1⟩ := Sk.draws I hc hqx h1 n1
    obtain ⟨m2, P2, St2, D2, e2, st2, bk2, vl2⟩ := Sk.draws I hc hqy h2 n2
    subst e1 e2
    exact wpAny_pyNext_zipD2_end S D1 D2 hz hTI hTO st1 st2 le1 le2 hend fun h' tk hk => ⟨rfl, I.turnedL (t' := tk) (ch := [z, TI, TO, i1, i2]) (fun c o hb q =>
      hk c o (fun q' => hb (by simp [q'])) (fun q' => hb (by simp [q'])) (fun q' => hb (by simp [q'])) (fun q' => hb (by simp [q'])) q) hf⟩
  self := fun A i s Q E st h => wpAny_pyIter_zip st.1 h
def iZipS (K : PySem.W.Frag) (ta : TA) : TI := fun σ H R => ta σ H fun vs H1 => ∃ (a b : Sk) (xs ys : List V), vs = [a.v, b.v] ∧ a.has K H1 xs ∧ b.has K H1 ys ∧ R (ItzS K a b) H1
theorem zip_sep {n : Nat} {p q : List Addr} (hp : ∀ b ∈ p, b < n) (hq : ∀ b ∈ q, b < n) : ZipSep2 (n + 4) (n + 2) (n + 3) n (n + 1) (n :: p) ((n + 1) :: q) where
  TIz := by show n + 2 ≠ n + 4; omega
  TOz := by show n + 3 ≠ n + 4; omega
  TITO := by show n + 2 ≠ n + 3; omega
  TIi1 := by show n + 2 ≠ n; omega
  mem1 := List.mem_cons_self ..
  zf1 := fun h => by
    rcases List.mem_cons.mp h with e | e
    · have : n + 4 = n := e; omega
    · have := hp _ e; have : n + 4 < n := this; omega
  Tf1 := fun h => by
    rcases List.mem_cons.mp h with e | e
    · have : n + 3 = n := e; omega
    · have := hp _ e; have : n + 3 < n := this; omega
  TIi2 := by show n + 2 ≠ n + 1; omega
  mem2 := List.mem_cons_self ..
  zf2 := fun h => by
    rcases List.mem_cons.mp h with e | e
    · have : n + 4 = n + 1 := e; omega
    · have := hq _ e; have : n + 4 < n := this; omega
  Tf2 := fun h => by
    rcases List.mem_cons.mp h with e | e
    · have : n + 3 = n + 1 := e; omega
    · have := hq _ e; have : n + 3 < n := this; omega
  sep1_2 := fun h => by
    rcases List.mem_cons.mp h with e | e
    · have : n = n + 1 := e; omega
    · have := hq _ e; have : n < n := this; omega
  sep2_1 := fun h => by
    rcases List.mem_cons.mp h with e | e
    · have : n + 1 = n := e; omega
    · have := hp _ e; have : n + 1 < n := this; omega
theorem pi_zipS {X : Cx} {e e2 : Expr} {ta : TA} {p pos tpos : Pos} {elts : List Expr} {kk : Nat} (hg : Gl X "zip") (hm : X.mg "zip" = none) (ha : PA X [e, e2] ta)
    (hs : starEach [e, e2] X.env = (false, eval e X.env) :: starEach [e2] X.env := by rfl) (hpl : (backTo pos (starEach [e2] X.env)).any (·.1) = false := by rfl) :
    PI X (.Tuple elts kk tpos) (.Call (.Name "zip" p) [e, e2] [] pos) (iZipS X.K ta) := by
  refine ⟨fun pins s σ H R I h => ?_⟩
  refine Call_ (ld_blt I hg hm PyProof.Rows.boot_zip (PyProof.Rows.callWith_type1 (thn (ha.run pos pins s σ H _ I h) fun us s1 ⟨vs, H1, I1, r1, q1⟩ => ?_) hs hpl))
  obtain ⟨a, b, xs, ys, ex, hqx, hqy, q⟩ := q1
  subst ex
  cases r1 with
  | cons r rr =>
    cases rr with
    | cons r' rr =>
      cases rr
      have fresh5 : ∀ c, c ∈ [s1.heap.objs.size + 4, s1.heap.objs.size + 2, s1.heap.objs.size + 3, s1.heap.objs.size, s1.heap.objs.size + 1] → FpOk X pins H1 c := fun c hcm => by
        have e' : c = s1.heap.objs.size + 4 ∨ c = s1.heap.objs.size + 2 ∨ c = s1.heap.objs.size + 3 ∨ c = s1.heap.objs.size ∨ c = s1.heap.objs.size + 1 := by simpa using hcm
        have hle : s1.heap.objs.size ≤ c := by
          rcases e' with z | z | z | z | z
          · rw [z]; exact Nat.le_add_right _ _
          · rw [z]; exact Nat.le_add_right _ _
          · rw [z]; exact Nat.le_add_right _ _
          · rw [z]; exact Nat.le_refl _
          · rw [z]; exact Nat.le_add_right _ _
        exact I1.fpOk hle (I1.hok.fresh hle)
      obtain ⟨o1, G1, B1, g1, at1, lt1⟩ := Sk.begins I1 hqx r
      obtain ⟨o2, G2, B2, g2, at2, lt2⟩ := Sk.begins I1 hqy r'
      refine zip_begins2 B1 B2 g1 g2 fun h' hz hTI hTO h1 h2 hsz hk => wpAny_pyIter_zip hz ?_
      have I2 : Inv X pins σ H1 { s1 with heap := h' } := I1.kept (t' := s1.toks) hk
      exact ⟨s1.heap.objs.size + 4, [s1.heap.objs.size + 4, s1.heap.objs.size + 2, s1.heap.objs.size + 3, s1.heap.objs.size, s1.heap.objs.size + 1], _, _, H1, rfl, I2,
        turn_zipS (zip_sep lt1 lt2) (fun h => Nat.lt_irrefl _ (lt1 _ h)) (fun h => absurd (lt2 _ h) (Nat.not_lt.mpr (Nat.le_add_right _ 1))), ⟨hz, hTI, ⟨_, _, hTO⟩, at1 _ _ h1, at2 _ _ h2⟩, fresh5, q⟩
/-- the things of a list, a tuple, a text -/
def itD : D → Option (List D)
  | .tup l => some l
  | .lst l => some l
  | .scr l => some (l.map D.int)
  | .str z => some (z.cps.toList.map fun c => .str ⟨#[c]⟩)
  | _ => none
def pair2 (p : D × D) : D := .tup [p.1, p.2]
def dZip (da : DA) : DI := fun xc r P => da xc r fun ds => match ds with
  | [x, y] => onO (itD x) fun a => onO (itD y) fun b => P ((a.zip b).map pair2)
  | _ => False
theorem sk_of {K : PySem.W.Frag} {B : Hp} {v : V} {d : D} {l : List D} (r : Rep K B v d) (e : itD d = some l) : ∃ k : Sk, v = k.v ∧ ∃ vs, (∀ H, Kp B H → k.has K H vs) ∧ RepL K B vs l := by
  cases r with
  | tup h rl => cases e; exact ⟨.t _, rfl, _, fun H k => kp_t k h, rl⟩
  | lst h rl => cases e; exact ⟨.l _, rfl, _, fun H k => .inl (.inl ((k _ _ h).1 DrawO.lst)), rl⟩
  | scr h => cases e; exact ⟨.l _, rfl, _, fun H k => kp_l k h, RepL.ints _⟩
  | str y =>
    cases e
    refine ⟨.s y, rfl, _, fun H k => rfl, ?_⟩
    have g : ∀ cs : List Nat, RepL K B (cs.map fun c => V.str ⟨#[c]⟩) (cs.map fun c => D.str ⟨#[c]⟩) := by
      intro cs
      induction cs with
      | nil => exact .nil
      | cons c cs ih => exact .cons (.str _) ih
    exact g _
  | _ => cases e
theorem zip_get {α β : Type} : ∀ (xs : List α) (ys : List β) (i : Nat) (p : α × β), (xs.zip ys)[i]? = some p → xs[i]? = some p.1 ∧ ys[i]? = some p.2
  | [], _, i, p, h => by simp at h
  | _ :: _, [], i, p, h => by simp at h
  | x :: xs, y :: ys, 0, p, h => by
    simp at h
    subst h
    exact ⟨rfl, rfl⟩
  | x :: xs, y :: ys, i + 1, p, h => by
    have := zip_get xs ys i p (by simpa using h)
    simpa using this
section
variable {X : Cx} {W : WX}
theorem qi_zip {e e2 : Expr} {da : DA} {p pos tpos : Pos} {elts : List Expr} {kk : Nat} (hg : Gl X "zip") (hm : X.mg "zip" = none) (ha : PA X [e, e2] (LA X.K W da))
    (hs : starEach [e, e2] X.env = (false, eval e X.env) :: starEach [e2] X.env := by rfl) (hpl : (backTo pos (starEach [e2] X.env)).any (·.1) = false := by rfl) :
    PI X (.Tuple elts kk tpos) (.Call (.Name "zip" p) [e, e2] [] pos) (LI X.K W (dZip da)) := by
  refine imI (pi_zipS hg hm ha hs hpl) fun s H R ⟨B, r, xc, P, k, en, h, hx, hq⟩ => ⟨B, r, xc, _, k, en, h, hx, fun vs ds H1 B1 z rl q => ?_⟩
  split at q
  · rename_i dx dy
    obtain ⟨a, ea, q⟩ := onO_elim q
    obtain ⟨b, eb, q⟩ := onO_elim q
    cases rl with
    | cons rx rl =>
      cases rl with
      | cons ry rl =>
        cases rl
        obtain ⟨k1, e1, v1, h1, r1⟩ := sk_of rx ea
        obtain ⟨k2, e2, v2, h2, r2⟩ := sk_of ry eb
        subst e1 e2
        refine ⟨k1, k2, v1, v2, rfl, h1 _ z.sub, h2 _ z.sub, hq _ _ H1 B1 (fun _ => False) z (fun _ w => w.elim) ?_ q⟩
        intro B2 H2 i kb kh _
        have g1 := h1 H2 (kb.trans kh)
        have g2 := h2 H2 (kb.trans kh)
        have l1 := r1.length
        have l2 := r2.length
        refine ⟨fun d hd => ?_, fun hle => ?_⟩
        · rw [List.getElem?_map] at hd
          obtain ⟨pr, hp, e⟩ := Option.map_eq_some_iff.mp hd
          subst e
          obtain ⟨ha, hb⟩ := zip_get _ _ _ _ hp
          obtain ⟨x, hx, rx2⟩ := r1.get ha
          obtain ⟨y, hy, ry2⟩ := r2.get hb
          refine ⟨⟨v1, v2, x, y, g1, g2, hx, hy⟩, fun v H3 yl => ?_⟩
          obtain ⟨T, x', y', rfl, hT, rfl, f1, f2⟩ := yl
          have fx := f1 v1 g1
          have fy := f2 v2 g2
          rw [hx] at fx
          cases fx
          rw [hy] at fy
          cases fy
          refine ⟨_, .new kh hT, .tup (.inl (.inl upd_same)) (.cons (rx2.mono (kb.trans (Kp.new (kh.none hT)))) (.cons (ry2.mono (kb.trans (Kp.new (kh.none hT)))) .nil))⟩
        · rw [List.length_map, List.length_zip] at hle
          exact ⟨v1, v2, g1, g2, by omega, by omega, by omega⟩
  · exact q.elim
end
end Dl
/-! Dl10: dicts read and written, items stored, == with an empty thing. -/
namespace Dl
open PySem PySem.Spec PyProof.Rows L2
section
variable {X : Cx} {W : WX}
/-! ### d.get(k), d.get(k, x) -/
def asDic (P : List (Key × D) → Prop) : D → Prop
  | .dic l => P l
  | _ => False
theorem asDic_elim {P : List (Key × D) → Prop} {d : D} (h : asDic P d) : ∃ b, d = .dic b ∧ P b := by
  cases d <;> first | exact ⟨_, rfl, h⟩ | exact h.elim
/-- the value, else y -/
def getP (o : Option D) (y : Val) (P : Val → Prop) : Prop := match o with
  | some d => P (.dat d)
  | none => P y
def dGet2 (dd dk de : DE) : DE := fun xc r P => dd xc r fun x => asDic (fun kds => dk xc r fun k => de xc r fun y => onO (keyD k.d) fun q => getP (valD kds q) y P) x.d
def dGet1 (dd dk : DE) : DE := fun xc r P => dd xc r fun x => asDic (fun kds => dk xc r fun k => onO (keyD k.d) fun q => getP (valD kds q) (.dat .non) P) x.d
theorem rv_dic_same {K : PySem.W.Frag} {B H : Hp} {a : Addr} {x : Val} {ds : List (Key × D)} (k : Kp B H) (r : RepV K B H (.ref a) x) (e : x.d = .dic ds) : ∃ kvs, H a = some (.dK kvs) ∧ RepK K B kvs ds := by
  obtain ⟨b, kvs, e2, h, r⟩ := rv_dic k r e
  cases e2
  exact ⟨kvs, h, r⟩
theorem q_dget2 {o e f : Expr} {apos cpos : Pos} {dd dk de : DE} {f1 f2 : Bool} (hu : X.A.units + 1 < cLine) (ho : PE X o (L X.K W f1 dd)) (he : PE X e (L X.K W f2 dk)) (hf : PE X f (L X.K W true de)) (m : M2 X o "get" apos e f cpos) :
    PE X (.Call (.Attribute o "get" apos) [e, f] [] cpos) (L X.K W true (dGet2 dd dk de)) := by
  refine imE (pe_dget2 hu ho he hf m) fun s H Q ⟨B, r, xc, P, k, en, h, hx, hq⟩ => ⟨B, r, xc, _, k, en, h, hx, fun x vx H1 B1 z1 rx _ q1 => ?_⟩
  obtain ⟨kds, ed, q1⟩ := asDic_elim q1
  obtain ⟨a, kvs, rfl, hv, rk⟩ := rv_dic z1.sub rx ed
  refine ⟨a, rfl, .inl ⟨kvs, .inl hv⟩, B1, r, xc, _, z1.sub, en.step z1, q1, fun cls d e H' B' st => hx cls d e H' B' (z1.trans st), fun y vy H2 B2 z2 ry _ q2 => ?_⟩
  have z12 := z1.trans z2
  refine ⟨B2, r, xc, _, z2.sub, en.step z12, q2, fun cls d e H' B' st => hx cls d e H' B' (z12.trans st), fun w vw H3 B3 z3 rw_ fw q3 => ?_⟩
  have z := z12.trans z3
  obtain ⟨q, ek, q3⟩ := onO_elim q3
  have ey := key_v (ry.step z3) ek
  subst ey
  obtain ⟨kvs3, hv3, rk3⟩ := rv_dic_same z3.sub ((rx.step z2).step z3) ed
  unfold getP at q3
  cases ev : valD kds q with
  | some d =>
    rw [ev] at q3
    obtain ⟨v, e1, r1⟩ := rk3.val ev
    exact ⟨some v, by rw [← e1]; exact DGet.k hv3, hq v (.dat d) H3 B3 z r1 (fun _ => Fr.dat) q3⟩
  | none =>
    rw [ev] at q3
    exact ⟨none, by rw [← rk3.val_none ev]; exact DGet.k hv3, hq w vw H3 B3 z rw_ (fun _ => ((fw rfl).back z2).back z1) q3⟩
theorem q_dget1 {o e : Expr} {apos cpos : Pos} {dd dk : DE} {f1 f2 : Bool} (hu : X.A.units + 1 < cLine) (ho : PE X o (L X.K W f1 dd)) (he : PE X e (L X.K W f2 dk)) (m : M1 X o "get" apos e cpos) :
    PE X (.Call (.Attribute o "get" apos) [e] [] cpos) (L X.K W true (dGet1 dd dk)) := by
  refine imE (pe_dget1 hu ho he m) fun s H Q ⟨B, r, xc, P, k, en, h, hx, hq⟩ => ⟨B, r, xc, _, k, en, h, hx, fun x vx H1 B1 z1 rx _ q1 => ?_⟩
  obtain ⟨kds, ed, q1⟩ := asDic_elim q1
  obtain ⟨a, kvs, rfl, hv, rk⟩ := rv_dic z1.sub rx ed
  refine ⟨a, rfl, .inl ⟨kvs, .inl hv⟩, B1, r, xc, _, z1.sub, en.step z1, q1, fun cls d e H' B' st => hx cls d e H' B' (z1.trans st), fun y vy H2 B2 z2 ry _ q2 => ?_⟩
  have z := z1.trans z2
  obtain ⟨q, ek, q3⟩ := onO_elim q2
  have ey := key_v ry ek
  subst ey
  obtain ⟨kvs3, hv3, rk3⟩ := rv_dic_same z2.sub (rx.step z2) ed
  unfold getP at q3
  cases ev : valD kds q with
  | some d =>
    rw [ev] at q3
    obtain ⟨v, e1, r1⟩ := rk3.val ev
    exact ⟨some v, by rw [← e1]; exact DGet.k hv3, hq v (.dat d) H2 B2 z r1 (fun _ => Fr.dat) q3⟩
  | none =>
    rw [ev] at q3
    exact ⟨none, by rw [← rk3.val_none ev]; exact DGet.k hv3, hq _ (.dat .non) H2 B2 z .non (fun _ => Fr.dat) q3⟩
theorem m2_of {o e f : Expr} {m : Str} {apos cpos : Pos} (base : attributeBase o m X.env (eval o X.env) = eval o X.env := by rfl)
    (few : ((backTo cpos (starEach [e, f] X.env)).all (fun x => !x.1) && (backToKw cpos (keywordEach [] X.env)).all (fun x => x.1.isSome) && decide (([e, f] : List Expr).length + ([] : List Keyword).length + (if ([] : List Keyword).isEmpty then 0 else 1) < 30)) = true := by rfl)
    (line : (apos.endLine == cpos.line) = true := by rfl) (trees : backTo cpos (starEach [e, f] X.env) = [(false, eval e X.env), (false, eval f X.env)] := by rfl) : M2 X o m apos e f cpos := ⟨base, few, line, trees⟩
theorem m1_of {o e : Expr} {m : Str} {apos cpos : Pos} (base : attributeBase o m X.env (eval o X.env) = eval o X.env := by rfl)
    (few : ((backTo cpos (starEach [e] X.env)).all (fun x => !x.1) && (backToKw cpos (keywordEach [] X.env)).all (fun x => x.1.isSome) && decide (([e] : List Expr).length + ([] : List Keyword).length + (if ([] : List Keyword).isEmpty then 0 else 1) < 30)) = true := by rfl)
    (line : (apos.endLine == cpos.line) = true := by rfl) (trees : backTo cpos (starEach [e] X.env) = [(false, eval e X.env)] := by rfl) : M1 X o m apos e cpos := ⟨base, few, line, trees⟩
/-! ### a written dict of texts: C[k], C.get(k, x), k in C -/
/-- the dict's rows -/
def tabV (tbl : List (Str × D)) (z : Str) : Option D := (tbl.find? fun kv => decide (kv.1 = z)).map (·.2)
def entOk (u : Value) (d : D) : Bool := match u, d with
  | .int i _, .int j => i == j
  | .str x _, .str y => x == y
  | .bool x, .bl y => x == y
  | .none, .non => true
  | _, _ => false
def keyOk (u : Value) (k : Str) : Bool := match u with
  | .str x _ => x == k
  | _ => false
def entsOk : List DictEntry → List (Str × D) → Bool
  | [], [] => true
  | e :: es, (k, d) :: r => keyOk e.key k && entOk e.val d && entsOk es r
  | _, _ => false
theorem keyOk_str {u : Value} {k : Str} (h : keyOk u k = true) : ∃ t, u = .str k t := by
  unfold keyOk at h
  split at h
  · rename_i x t
    have e : x = k := by simpa using h
    subst e
    exact ⟨t, rfl⟩
  · cases h
structure KTab (K : PySem.W.Frag) (w : World) (a : Addr) (tbl : List (Str × D)) : Prop where
  ex : ∃ es n, K.lookup a = some ⟨.type "dict", none, .dict es n, #[]⟩ ∧ PySem.W.KeysLit w.params es.toList ∧ entsOk es.toList tbl = true
  low : (a == sysModules) = false
theorem entOk_flat {u : Value} {d : D} (h : entOk u d = true) : flatD d = true ∧ RelV (dV d) u := by
  unfold entOk at h
  split at h
  · rename_i i t j
    have e : i = j := by simpa using h
    subst e
    exact ⟨rfl, _, rfl⟩
  · rename_i i t j
    have e : i = j := by simpa using h
    subst e
    exact ⟨rfl, _, rfl⟩
  · rename_i i j
    have e : i = j := by simpa using h
    subst e
    exact ⟨rfl, rfl⟩
  · exact ⟨rfl, rfl⟩
  · cases h
theorem ents_find {z : Str} : ∀ {es : List DictEntry} {tbl : List (Str × D)}, entsOk es tbl = true → (match tabV tbl z with
  | some d => ∃ e, es.find? (fun d => Value.isStrOf z d.key) = some e ∧ entOk e.val d = true
  | none => es.find? (fun d => Value.isStrOf z d.key) = none)
  | [], [], _ => rfl
  | [], _ :: _, h => nomatch h
  | _ :: _, [], h => nomatch h
  | e :: es, (k, d) :: r, h => by
    unfold entsOk at h
    obtain ⟨h1, hr⟩ := Bool.and_eq_true_iff.mp h
    obtain ⟨hk, hv⟩ := Bool.and_eq_true_iff.mp h1
    obtain ⟨t, hk⟩ := keyOk_str hk
    have ih := ents_find (z := z) hr
    by_cases c : k = z
    · subst c
      have e1 : tabV ((k, d) :: r) k = some d := by simp [tabV]
      rw [e1]
      refine ⟨e, ?_, hv⟩
      rw [List.find?_cons, hk]
      have : Value.isStrOf k (.str k t) = true := by simp [Value.isStrOf]
      rw [this]
    · have e1 : tabV ((k, d) :: r) z = tabV r z := by simp [tabV, List.find?_cons, c]
      rw [e1]
      have e2 : (e :: es).find? (fun d => Value.isStrOf z d.key) = es.find? (fun d => Value.isStrOf z d.key) := by
        rw [List.find?_cons, hk]
        have : Value.isStrOf z (.str k t) = false := by simp [Value.isStrOf, c]
        rw [this]
      rw [e2]
      exact ih
theorem KTab.find {tbl : List (Str × D)} {es : Array DictEntry} (h : entsOk es.toList tbl = true) (z : Str) : (match tabV tbl z with
  | some d => ∃ u, findBy Value.isStrOf es z = some u ∧ entOk u d = true
  | none => findBy Value.isStrOf es z = none) := by
  have q := ents_find (z := z) h
  obtain ⟨l⟩ := es
  unfold findBy
  cases e : tabV tbl z with
  | some d =>
    rw [e] at q
    obtain ⟨en, h1, h2⟩ := q
    refine ⟨en.val, ?_, h2⟩
    rw [List.find?_toArray]
    rw [show l.find? (fun d => Value.isStrOf z d.key) = some en from h1]
    rfl
  | none =>
    rw [e] at q
    show Option.map _ (Array.find? _ _) = none
    rw [List.find?_toArray]
    rw [show l.find? (fun d => Value.isStrOf z d.key) = none from q]
    rfl
def dKGet (tbl : List (Str × D)) (dk de : DE) : DE := fun xc r P => dk xc r fun k => de xc r fun y => asS (fun z => getP (tabV tbl z) y P) k.d
theorem q_kget {x : Str} {e f : Expr} {p apos cpos : Pos} {a : Addr} {tbl : List (Str × D)} {dk de : DE} {f2 : Bool} (T : KTab X.K X.w a tbl) (hg : Gl X x) (hm : X.mg x = some (.ref a)) (he : PE X e (L X.K W f2 dk)) (hf : PE X f (L X.K W true de))
    (m : M2 X (.Name x p) "get" apos e f cpos) (hd : (x == ("__debug__" : Str)) = false := by decide) : PE X (.Call (.Attribute (.Name x p) "get" apos) [e, f] [] cpos) (L X.K W true (dKGet tbl dk de)) := by
  obtain ⟨⟨es, n, hl, hk, hen⟩, low⟩ := T
  refine ⟨fun pins s σ H Q I ⟨B, r, xc, P, k, en, h, hx, hq⟩ => ?_⟩
  refine wpAny_Call_method m.base m.few m.line PySem.F.plainAttrs_dict PySem.F.slot_dict_get PySem.F.type_dict_get (thn ((pe_glob (v := .ref a) hg hm rfl hd).run pins s σ H (fun v H' => v = .ref a ∧ H' = H) I ⟨rfl, rfl⟩) fun u s1 ⟨x, H1, I1, rx, ex, eh⟩ => ?_)
  subst ex eh
  obtain rfl : u = Value.ref a := rx
  have hm1 := PySem.W.mapOf_K (prog := X.prog) (w := X.w) I1.kIn hl hk
  refine ⟨hm1.typeIs, fun b q => ?_, ?_⟩
  · cases q
    exact ⟨_, I1.kIn _ _ hl, rfl⟩
  rw [m.trees]
  refine Calls.callWith_builtin rfl (Calls.evalArgs_plain (Calls.spliced_cons (thn (he.run pins s1 σ H1 (fun y H2 => ∃ B2 vy, Step B H1 B2 H2 ∧ RepV X.K B2 H2 y vy ∧ de xc r fun w => asS (fun z => getP (tabV tbl z) w P) vy.d) I1 ⟨B, r, xc, _, k, en, h, hx, fun y vy H2 B2 z2 ry _ q2 => ⟨B2, vy, z2, ry, q2⟩⟩) fun iv s2 ⟨y, H2, I2, ry, B2, vy, z2, ryv, q2⟩ => ?_)))
  refine Calls.spliced_cons (thn (hf.run pins s2 σ H2 (fun w H3 => ∃ B3 vw, Step B2 H2 B3 H3 ∧ RepV X.K B3 H3 w vw ∧ Fr H2 w vw ∧ asS (fun z => getP (tabV tbl z) vw P) vy.d) I2 ⟨B2, r, xc, _, z2.sub, en.step z2, q2, fun cls d e H' B' st => hx cls d e H' B' (z2.trans st), fun w vw H3 B3 z3 rw_ fw q3 => ⟨B3, vw, z3, rw_, fw rfl, q3⟩⟩) fun fv s3 ⟨w, H3, I3, rz, B3, vw, z3, rww, fw, q3⟩ => Calls.spliced_nil ?_)
  obtain ⟨z, ez, q3⟩ := asS_elim q3
  have ey := rv_str ryv ez
  subst ey
  obtain ⟨t, rfl⟩ := ry
  have hm3 := PySem.W.mapOf_K (prog := X.prog) (w := X.w) I3.kIn hl hk
  have hz := z2.trans z3
  refine call_meetsIn PySem.F.slot_dict_get hm3.typeIs PySem.F.entry_dict_get (PySem.F.args_dict_get_3 _ _ _) (meets_dict_get_default (strKind X.prog X.w) a (strKind_is X.prog X.w z t) low fv) ⟨_, hm3, ?_⟩
  have fd := KTab.find hen z
  unfold getP at q3
  cases ev : tabV tbl z with
  | some d =>
    rw [ev] at q3 fd
    obtain ⟨u, h1, h2⟩ := fd
    obtain ⟨h3, h4⟩ := entOk_flat h2
    rw [show findBy Value.isStrOf es z = some u from h1]
    exact ⟨_, H3, I3.tok _, h4, hq _ (.dat d) H3 B3 hz (rep_flat h3) (fun _ => Fr.dat) q3⟩
  | none =>
    rw [ev] at q3 fd
    rw [show findBy Value.isStrOf es z = none from fd]
    exact ⟨_, H3, I3.tok _, rz, hq _ vw H3 B3 hz rww (fun _ => fw.back z2) q3⟩
/-! ### d.update(e) -/
def rUpdate : V → List V → Hp → VK → Prop := fun x vs H Q => ∃ d o kvs more, x = .ref d ∧ vs = [.ref o] ∧ H d = some (.dK kvs) ∧ H o = some (.dK more) ∧ d ≠ o ∧ kvs.length + more.length ≤ sizeLine ∧ Q .non (upd H d (.dK (mergeK kvs more)))
theorem len_merge : ∀ (more kvs : List (Key × V)), (mergeK kvs more).length ≤ kvs.length + more.length
  | [], kvs => by show kvs.length ≤ _; omega
  | p :: more, kvs => by
    have h := len_merge more (putK kvs p.1 p.2)
    have h2 := length_putK kvs p.1 p.2
    show (mergeK (putK kvs p.1 p.2) more).length ≤ _
    rw [List.length_cons]
    omega
theorem mt_update : MtM X "dict.update" rUpdate := by
  intro pins s σ H x vs v us Q I rx rv h
  obtain ⟨d, o, kvs, more, rfl, rfl, hd, ho, hne, hz, q⟩ := h
  cases rx
  obtain ⟨u, rfl, ru⟩ := rv.one
  cases ru
  obtain ⟨z1, hd1, vs1, rel1, dd1⟩ := dk_of I.hok hd
  obtain ⟨z2, hd2, vs2, rel2, dd2⟩ := dk_of I.hok ho
  refine call_meetsIn PySem.F.slot_dict_update dd1.typeIs PySem.F.entry_dict_update (PySem.F.args_dict_update_2 _ _) (meets_dict_update (mixKind X.prog X.w) d o hne hd2)
    ⟨vs1, vs2, dd1, dd2, by rw [← rel1.length, ← rel2.length]; exact hz, fun h' hmm _ hs => ?_⟩
  have he : ∃ q, h'.get? d = some q := let ⟨q, _, _, hq, _⟩ := hmm; ⟨q, hq⟩
  exact ⟨.non, _, d_write (t' := s.toks) I (by rw [hd]; exact True.intro) hs he (dk_new (Nat.le_trans (len_merge more kvs) hz) hd1 (KV.merge rel2 rel1) hmm), rfl, q⟩
theorem RepK.length {K : PySem.W.Frag} {B : Hp} : ∀ {a : List (Key × V)} {b : List (Key × D)}, RepK K B a b → a.length = b.length
  | _, _, .nil => rfl
  | _, _, .cons _ r => congrArg (· + 1) (RepK.length r)
def dUpdate (i : Nat) (de : DE) : DS := fun xc E r => match lk r i with
  | some (.tmp (.dic l)) => de xc r fun x => asDic (fun m => l.length + m.length ≤ sizeLine ∧ E.nx (st r i (some (.tmp (.dic (mergeD l m)))))) x.d
  | _ => False
theorem qs_update {i : Nat} {x : Str} {e : Expr} {de : DE} {p1 p2 p3 pos : Pos} (he : PE X e (L X.K W true de))
    (h : PE X (.Call (.Attribute (.Name x p1) "update" p2) [e] [] p3) (tBM X.K "dict" rUpdate (tVar i) (tCons (L X.K W true de) tNil)))
    (hs : swapsWith (.Call (.Attribute (.Name x p1) "update" p2) [e] [] p3) none pos.line X.env = pure false := by rfl) : PS X (.Expr (.Call (.Attribute (.Name x p1) "update" p2) [e] [] p3) pos) (LS X.K W (dUpdate i de)) := by
  refine imS (ps_expr h hs) fun E s H ⟨B, r, xc, De, k, en, h, hx, nx, bk, ct, rt⟩ => ?_
  unfold dUpdate at h
  split at h
  · rename_i l hl
    obtain ⟨p, hp, n, w⟩ := own_at en hl
    obtain ⟨kvs, hv, rl⟩ := id w
    refine ⟨.ref p, hp, .inr (.inr (.inl ⟨rfl, .inl ⟨_, hv⟩⟩)), ?_⟩
    refine ⟨B, r, xc, _, k, en, h, fun cls d e H' B' z => hx cls d e s r H' B' z.s (en.step z), fun v x H1 B1 z rv fr q => ?_⟩
    obtain ⟨m, em, hlen, q⟩ := asDic_elim q
    obtain ⟨a, more, rfl, hm, rm⟩ := rv_dic z.sub rv em
    have hv1 := z.out p _ hv n
    have rl1 := RepK.mono z.kp rl
    have ne : p ≠ a := fun e => by
      subst e
      cases x with
      | dat d =>
        cases (show d = .dic m from em)
        cases rv with
        | dic hb _ _ => rw [hv1.2] at hb; cases hb
      | tmp c =>
        have := fr rfl p c rfl rfl
        rw [hv] at this
        cases this
    obtain ⟨en2, z2⟩ := own_write (o := .dK (mergeK kvs more)) (c' := .dic (mergeD l m)) z.sub (en.step z) hl hp hv1.2 ⟨_, upd_same, RepK.merge rm rl1⟩
    exact ⟨p, a, kvs, more, rfl, rfl, hv1.1, hm, ne, by rw [RepK.length rl1, RepK.length rm]; exact hlen, nx _ _ _ _ (z.s.trans z2) en2 q⟩
  · exact h.elim
/-! ### x[i] = e, x a local that owns its list or dict -/
def putC (d : D) (P : Ct → Prop) : Ct → D → Prop
  | .lst l, .int j => onO (ixN l.length j) fun n => P (.lst (l.set n d))
  | .dic l, k => onO (keyD k) fun q => l.length < sizeLine ∧ P (.dic (putD l q d))
  | _, _ => False
def dPutI (i : Nat) (dk de : DE) : DS := fun xc E r => match lk r i with
  | some (.tmp c) => de xc r fun v => asD (fun d => dk xc r fun k => putC d (fun c' => E.nx (st r i (some (.tmp c')))) c k.d) v
  | _ => False
theorem set_own (hu : X.A.units + 1 < cLine) : PSet X (fun o i v H Q => rSetL o i v H Q ∨ rSetD o i v H Q) := fun pins s σ H o i v ov iv u Q I ro ri rv h =>
  h.elim (set_list pins s σ H o i v ov iv u Q I ro ri rv) (set_dict hu pins s σ H o i v ov iv u Q I ro ri rv)
theorem qs_put (i : Nat) {x : Str} {e j : Expr} {p1 pos pos' : Pos} {dk de : DE} {f2 : Bool} (hu : X.A.units + 1 < cLine) (hx : PE X (.Name x p1) (tVar i)) (hk : PE X j (L X.K W f2 dk)) (he : PE X e (L X.K W true de))
    (ha : ∀ v, assign (.Subscript (.Name x p1) j pos') X.env v = (do
      let ov ← holding [v] (eval (.Name x p1) X.env)
      let iv ← holding [v, ov] (eval j X.env)
      standAt pos'
      holding [v, ov, iv] (setItem ov iv v)
      release [v, ov, iv] []) := by intro _; rfl)
    (hs : swapsWithSole [.Subscript (.Name x p1) j pos'] e pos.line X.env = pure false := by rfl) (hw : swappedStores [.Subscript (.Name x p1) j pos'] e X.env = pure none := by rfl)
    (h1 : (assignEach [.Subscript (.Name x p1) j pos'] X.env).map (·.2) = [assign (.Subscript (.Name x p1) j pos') X.env] := by rfl) :
    PS X (.Assign [.Subscript (.Name x p1) j pos'] e pos) (LS X.K W (dPutI i dk de)) := by
  refine imS (ps_asg he (pg_sub hx hk (set_own hu) ha) hs hw h1) fun E s H ⟨B, r, xc, De, k, en, h, hx, nx, bk, ct, rt⟩ => ?_
  unfold dPutI at h
  split at h
  · rename_i c hl
    obtain ⟨p, hp, n, w⟩ := own_at en hl
    refine ⟨B, r, xc, _, k, en, h, fun cls d e H' B' z => hx cls d e s r H' B' z.s (en.step z), fun v x H1 B1 z1 rv fr q => ?_⟩
    cases x with
    | tmp c => exact q.elim
    | dat d =>
      have en1 := en.step z1
      refine ⟨.ref p, hp, B1, r, xc, _, z1.sub, en1, q, fun cls d e H' B' z => hx cls d e s r H' B' (z1.s.trans z.s) (en1.step z), fun y vy H2 B2 z2 ry _ q2 => ?_⟩
      have z := z1.trans z2
      have rv2 : Rep X.K B2 v d := Rep.mono z2.kp rv
      cases c with
      | lst l =>
        obtain ⟨vs, hv, rl⟩ := w
        have hv2 := z.out p _ hv n
        have rl2 := rl.mono z.kp
        unfold putC at q2
        split at q2
        · rename_i l2 j e1 e2
          cases e1
          obtain ⟨m, hm, q2⟩ := onO_elim q2
          have ey := rv_int ry e2
          subst ey
          obtain ⟨en3, z3⟩ := own_write (o := .lst (vs.set m v)) (c' := .lst (l.set m d)) z2.sub (en.step z) hl hp hv2.2 ⟨_, upd_same, rl2.set rv2 m⟩
          exact .inl ⟨p, vs, j, m, rfl, rfl, hv2.1, by rw [rl2.length]; exact hm, nx _ _ _ _ (z.s.trans z3) en3 q2⟩
        · rename_i e1
          cases e1
        · exact q2.elim
      | dic l =>
        obtain ⟨kvs, hv, rl⟩ := w
        have hv2 := z.out p _ hv n
        have rl2 := RepK.mono z.kp rl
        obtain ⟨kq, ek, hlen, q2⟩ := onO_elim (o := keyD vy.d) q2
        have ey := key_v ry ek
        subst ey
        obtain ⟨en3, z3⟩ := own_write (o := .dK (putK kvs kq v)) (c' := .dic (putD l kq d)) z2.sub (en.step z) hl hp hv2.2 ⟨_, upd_same, RepK.put rv2 rl2⟩
        exact .inr ⟨p, _, rfl, DPut.k hv2.1 (by rw [RepK.length rl2]; exact hlen), nx _ _ _ _ (z.s.trans z3) en3 q2⟩
  · exact h.elim
/-! ### == () and == [] -/
def rEqE (K : PySem.W.Frag) : R2 := fun x y H Q => ∃ a b xs ys, x = .ref a ∧ y = .ref b ∧ ys = [] ∧ ((SqT K H a xs ∧ SqT K H b ys) ∨ (SqL K H a xs ∧ SqL K H b ys)) ∧ Q (.bl xs.isEmpty) H
theorem op_eqE (hu : X.A.units + 64 < cLine) : OpR X (compareOp .Eq) (rEqE X.K) := by
  intro pins s σ H x y v u Q I rx ry h
  obtain ⟨a, b, xs, ys, rfl, rfl, rfl, h, q⟩ := h
  cases rx
  cases ry
  rcases h with ⟨h1, h2⟩ | ⟨h1, h2⟩
  · obtain ⟨its, r1, p1, _⟩ := I.tuple h1
    obtain ⟨its2, r2, p2, _⟩ := I.tuple h2
    cases r2
    refine SeqAt.eq_tupleAt (e := fun _ => true) p1 p2 (by omega) (fun j _ h2 => absurd h2 (Nat.not_lt_zero _)) ⟨_, H, I, ?_, q⟩
    cases r1 <;> rfl
  · obtain ⟨its, r1, p1, _⟩ := I.list h1
    obtain ⟨its2, r2, p2, _⟩ := I.list h2
    cases r2
    cases r1 with
    | nil => exact SeqAt.eq_listAt (e := fun _ => true) p1.isList p2.isList rfl (by omega) (fun j _ h2 => absurd h2 (Nat.not_lt_zero _)) ⟨.bl true, H, I, rfl, q⟩
    | cons _ _ => exact SeqAt.eq_list_lengthsAt p1.isList p2.isList rfl (by omega) ⟨.bl false, H, I, rfl, q⟩
def fEqED (P : Val → Prop) : D → D → Prop
  | .tup l, .tup [] => P (.dat (.bl l.isEmpty))
  | .lst l, .lst [] => P (.dat (.bl l.isEmpty))
  | _, _ => False
def fEqE : F2 := fun x y P => fEqED P x.d y.d
theorem rel_eqE : RelR X.K (rEqE X.K) fEqE := by
  intro B H x y vx vy P Q k rx ry h a
  unfold fEqE fEqED at h
  split at h
  · rename_i l e1 e2
    obtain ⟨p, vs, rfl, _, hp, rl⟩ := rv_tup k rx e1
    obtain ⟨p2, vs2, rfl, _, hp2, rl2⟩ := rv_tup k ry e2
    cases rl2
    exact ⟨p, p2, vs, [], rfl, rfl, rfl, .inl ⟨hp, hp2⟩, by rw [rl.isEmpty]; exact a.dat k (.bl _) h⟩
  · rename_i l e1 e2
    obtain ⟨p, vs, rfl, hp, rl⟩ := rv_lst k rx e1
    obtain ⟨p2, vs2, rfl, hp2, rl2⟩ := rv_lst k ry e2
    cases rl2
    exact ⟨p, p2, vs, [], rfl, rfl, rfl, .inr ⟨.inl (.inl hp), .inl (.inl hp2)⟩, by rw [rl.isEmpty]; exact a.dat k (.bl _) h⟩
  · exact h.elim
section
variable {a b : Expr} {pos : Pos} {da db : DE} {fa fb : Bool} (hu : X.A.units + 64 < cLine) (ha : PE X a (L X.K W fa da)) (hb : PE X b (L X.K W fb db))
include hu ha hb
theorem q_eqE : PE X (.Compare a [.Eq] [b] pos) (L X.K W true (dOp fEqE da db)) := q_cmp (op_eqE hu) rel_eqE ha hb (nomark _)
theorem qt_eqE : PT X (.Compare a [.Eq] [b] pos) (LT X.K W (dB (dOp fEqE da db))) := qt_cmp (op_eqE hu) rel_eqE ha hb (nomark _)
end
end
/-! ### equations by which these readings are opened -/
theorem z001 (P : Val → Prop) (l : List D) : (fEqED P (.tup l) (.tup [])) = (P (.dat (.bl l.isEmpty))) := rfl
theorem z002 (P : Val → Prop) (l : List D) : (fEqED P (.lst l) (.lst [])) = (P (.dat (.bl l.isEmpty))) := rfl
theorem z003 (P : List (Key × D) → Prop) (l : List (Key × D)) : (asDic P (.dic l)) = (P l) := rfl
theorem z004 (P : Val → Prop) (y : Val) (d : D) : (getP (some d) y P) = (P (.dat d)) := rfl
theorem z005 (P : Val → Prop) (y : Val) : (getP none y P) = (P y) := rfl
theorem z006 (i : Int) : (keyD (.int i)) = (some (.inl i)) := rfl
theorem z007 (i : Str) : (keyD (.str i)) = (some (.inr i)) := rfl
theorem z008 (l : List D) : (itD (.tup l)) = (some l) := rfl
theorem z009 (l : List D) : (itD (.lst l)) = (some l) := rfl
theorem z010 (z : Str) : (itD (.str z)) = (some (z.cps.toList.map fun c => .str ⟨#[c]⟩)) := rfl
theorem z011 (d : D) (P : Ct → Prop) (l : List D) (j : Int) : (putC d P (.lst l) (.int j)) = (onO (ixN l.length j) fun n => P (.lst (l.set n d))) := rfl
theorem z012 (d : D) (P : Ct → Prop) (l : List (Key × D)) (j : Int) : (putC d P (.dic l) (.int j)) = (l.length < sizeLine ∧ P (.dic (putD l (.inl j) d))) := rfl
theorem z013 (d : D) (P : Ct → Prop) (l : List (Key × D)) (j : Str) : (putC d P (.dic l) (.str j)) = (l.length < sizeLine ∧ P (.dic (putD l (.inr j) d))) := rfl
theorem z014 {α : Type} (a : α) (P : α → Prop) : (onO (some a) P) = (P a) := rfl
theorem z015 {α : Type} (P : α → Prop) : (onO (none : Option α) P) = False := rfl
end Dl
/-! Dl11: plain facts: == of flat data, what may be asked, how deep. -/
namespace Dl
open PySem PySem.Spec PyProof.Rows L2
theorem eqOk_int (i : Int) : eqOk (.int i) = true := rfl
theorem eqOk_non : eqOk .non = true := rfl
theorem eqOk_str {s : Str} (h : okS s) : eqOk (.str s) = true := by
  unfold eqOk SeqAt.shaped
  rw [Bool.and_eq_true, Bool.and_eq_true]
  exact ⟨rfl, okS_strOk h, rfl⟩
theorem eqd_int (a b : Int) : eqd (.int a) (.int b) = decide (a = b) := by
  show (a == b) = _
  by_cases h : a = b
  · subst h; simp
  · simp [h]
theorem eqd_str (a b : Str) : eqd (.str a) (.str b) = decide (a = b) := by
  show (a == b) = _
  by_cases h : a = b
  · subst h; simp
  · simp [h]
theorem eqd_bl' (a b : Bool) : eqd (.bl a) (.bl b) = decide (a = b) := by cases a <;> cases b <;> rfl
theorem one_inj {c d : Nat} : ((⟨#[c]⟩ : Str) = ⟨#[d]⟩) ↔ c = d := by
  constructor
  · intro h
    injection h with h
    injection h with h
    injection h with h
  · rintro rfl; rfl
theorem eqd_one (c d : Nat) : eqd (.str ⟨#[c]⟩) (.str ⟨#[d]⟩) = decide (c = d) := by
  rw [eqd_str]
  by_cases h : c = d
  · subst h; simp
  · rw [decide_eq_false h, decide_eq_false fun z => h (one_inj.mp z)]
theorem sz_ok {n : Nat} (h : n ≤ 100000) : n ≤ sizeLine := small_sz h
mutual
/-- data that a law may hand about: texts not too long, at most m things in a tuple or list -/
def okT (m : Nat) : D → Bool
  | .non => true
  | .bl _ => true
  | .int _ => true
  | .str s => decide (s.length ≤ 1000) && s.cps.toList.all fun c => decide (c < 0x110000)
  | .tup l => okTL m l && decide (l.length ≤ m)
  | .lst l => okTL m l && decide (l.length ≤ m)
  | .dic _ => true
  | _ => false
def okTL (m : Nat) : List D → Bool
  | [] => true
  | d :: r => okT m d && okTL m r
end
mutual
/-- how deep the tuples lie -/
def dep : D → Nat
  | .tup l => depL l + 1
  | _ => 0
def depL : List D → Nat
  | [] => 0
  | d :: r => max (dep d) (depL r)
end
theorem okT_plain {m : Nat} {d : D} (h : okT m d = true) : d.plain = true := by cases d <;> first | rfl | cases h
theorem okT_str {m : Nat} {s : Str} : okT m (.str s) = true ↔ s.length ≤ 1000 ∧ okS s := by
  show (decide (s.length ≤ 1000) && s.cps.toList.all fun c => decide (c < 0x110000)) = true ↔ _
  rw [Bool.and_eq_true, decide_eq_true_iff, List.all_eq_true]
  exact ⟨fun h => ⟨h.1, fun c hc => of_decide_eq_true (h.2 c hc)⟩, fun h => ⟨h.1, fun c hc => decide_eq_true (h.2 c hc)⟩⟩
theorem okTL_mem {m : Nat} : ∀ {l : List D}, okTL m l = true ↔ ∀ d ∈ l, okT m d = true
  | [] => ⟨fun _ d h => (nomatch h), fun _ => rfl⟩
  | a :: r => by
    show (okT m a && okTL m r) = true ↔ _
    rw [Bool.and_eq_true, okTL_mem (l := r)]
    refine ⟨fun h d hd => ?_, fun h => ⟨h a (List.mem_cons_self ..), fun d hd => h d (List.mem_cons_of_mem _ hd)⟩⟩
    rcases List.mem_cons.mp hd with e | e
    · rw [e]; exact h.1
    · exact h.2 d e
theorem okT_tup {m : Nat} {l : List D} : okT m (.tup l) = true ↔ (∀ d ∈ l, okT m d = true) ∧ l.length ≤ m := by
  show (okTL m l && decide (l.length ≤ m)) = true ↔ _
  rw [Bool.and_eq_true, okTL_mem, decide_eq_true_iff]
theorem okT_lst {m : Nat} {l : List D} : okT m (.lst l) = true ↔ (∀ d ∈ l, okT m d = true) ∧ l.length ≤ m := by
  show (okTL m l && decide (l.length ≤ m)) = true ↔ _
  rw [Bool.and_eq_true, okTL_mem, decide_eq_true_iff]
mutual
theorem okT_up {m k : Nat} (hk : m ≤ k) : ∀ {d : D}, okT m d = true → okT k d = true
  | .non, h => h
  | .bl _, h => h
  | .int _, h => h
  | .str _, h => h
  | .tup l, h => by
    have h : (okTL m l && decide (l.length ≤ m)) = true := h
    rw [Bool.and_eq_true, decide_eq_true_iff] at h
    show (okTL k l && decide (l.length ≤ k)) = true
    rw [Bool.and_eq_true, decide_eq_true_iff]
    exact ⟨okTL_up hk h.1, Nat.le_trans h.2 hk⟩
  | .lst l, h => by
    have h : (okTL m l && decide (l.length ≤ m)) = true := h
    rw [Bool.and_eq_true, decide_eq_true_iff] at h
    show (okTL k l && decide (l.length ≤ k)) = true
    rw [Bool.and_eq_true, decide_eq_true_iff]
    exact ⟨okTL_up hk h.1, Nat.le_trans h.2 hk⟩
  | .dic _, h => h
theorem okTL_up {m k : Nat} (hk : m ≤ k) : ∀ {l : List D}, okTL m l = true → okTL k l = true
  | [], _ => rfl
  | a :: r, h => by
    have h : (okT m a && okTL m r) = true := h
    rw [Bool.and_eq_true] at h
    show (okT k a && okTL k r) = true
    rw [Bool.and_eq_true]
    exact ⟨okT_up hk h.1, okTL_up hk h.2⟩
end
theorem depL_le {n : Nat} : ∀ {l : List D}, depL l ≤ n ↔ ∀ d ∈ l, dep d ≤ n
  | [] => ⟨fun _ d h => (nomatch h), fun _ => Nat.zero_le _⟩
  | a :: r => by
    show max (dep a) (depL r) ≤ n ↔ _
    rw [Nat.max_le, depL_le (l := r)]
    refine ⟨fun h d hd => ?_, fun h => ⟨h a (List.mem_cons_self ..), fun d hd => h d (List.mem_cons_of_mem _ hd)⟩⟩
    rcases List.mem_cons.mp hd with e | e
    · rw [e]; exact h.1
    · exact h.2 d e
theorem dep_tup {n : Nat} {l : List D} : dep (.tup l) ≤ n + 1 ↔ ∀ d ∈ l, dep d ≤ n := by
  show depL l + 1 ≤ n + 1 ↔ _
  rw [← depL_le (n := n)]
  omega
/-- data, not too deep -/
def Gd (m n : Nat) (d : D) : Prop := okT m d = true ∧ dep d ≤ n
theorem Gd.up {k n m : Nat} {d : D} (h : Gd k n d) (hm : n ≤ m) : Gd k m d := ⟨h.1, Nat.le_trans h.2 hm⟩
theorem Gd.wide {k n m : Nat} {d : D} (h : Gd k n d) (hm : k ≤ m) : Gd m n d := ⟨okT_up hm h.1, h.2⟩
theorem gd_tup {k n : Nat} {l : List D} (h : ∀ d ∈ l, Gd k n d) (hl : l.length ≤ k) : Gd k (n + 1) (.tup l) := ⟨okT_tup.mpr ⟨fun d hd => (h d hd).1, hl⟩, dep_tup.mpr fun d hd => (h d hd).2⟩
theorem gd_of_tup {k n : Nat} {l : List D} (h : Gd k (n + 1) (.tup l)) : (∀ d ∈ l, Gd k n d) ∧ l.length ≤ k := ⟨fun d hd => ⟨(okT_tup.mp h.1).1 d hd, dep_tup.mp h.2 d hd⟩, (okT_tup.mp h.1).2⟩
theorem gd_zero {k : Nat} {l : List D} (h : Gd k 0 (.tup l)) : False := by
  have := h.2
  have e : dep (.tup l) = depL l + 1 := rfl
  omega
theorem gd_lst {k n m : Nat} {l : List D} (h : ∀ d ∈ l, Gd k m d) (hl : l.length ≤ k) : Gd k n (.lst l) := ⟨okT_lst.mpr ⟨fun d hd => (h d hd).1, hl⟩, Nat.zero_le _⟩
theorem gd_str {k n : Nat} {s : Str} (h : s.length ≤ 1000) (o : okS s) : Gd k n (.str s) := ⟨okT_str.mpr ⟨h, o⟩, Nat.zero_le _⟩
theorem gd_int {k n : Nat} (i : Int) : Gd k n (.int i) := ⟨rfl, Nat.zero_le _⟩
theorem gd_bl {k n : Nat} (i : Bool) : Gd k n (.bl i) := ⟨rfl, Nat.zero_le _⟩
theorem mem_cut {l : List D} {lo hi : Option Int} {d : D} (h : d ∈ cutD l lo hi) : d ∈ l := List.mem_of_mem_drop (List.mem_of_mem_take h)
theorem cut_len (l : List D) (lo hi : Option Int) : (cutD l lo hi).length ≤ l.length := by
  unfold cutD
  rw [List.length_take, List.length_drop]
  omega
/-- all but the first -/
theorem cut_tail (a : D) (l : List D) : cutD (a :: l) (some 1) none = l := by
  unfold cutD
  have e1 : HT.sIx (a :: l).length 0 (some 1) = 1 := by
    unfold HT.sIx
    simp
  have e2 : HT.sIx (a :: l).length (a :: l).length none = (a :: l).length := rfl
  rw [e1, e2]
  simp
theorem tabV_map (f : Str → D) (z : Str) : ∀ l : List (Str × Str), tabV (l.map fun p => (p.1, f p.2)) z = ((l.find? fun p => decide (p.1 = z)).map (·.2)).map f
  | [] => rfl
  | (k, v) :: r => by
    unfold tabV
    rw [List.map_cons, List.find?_cons, List.find?_cons]
    by_cases h : k = z
    · rw [decide_eq_true h]; rfl
    · rw [decide_eq_false h]; exact tabV_map f z r
theorem valD_map (f : Str → D) (z : Str) : ∀ l : List (Str × Str), valD (l.map fun p => ((.inr p.1 : Key), f p.2)) (.inr z) = ((l.find? fun p => decide (p.1 = z)).map (·.2)).map f
  | [] => rfl
  | (k, v) :: r => by
    unfold valD
    rw [List.map_cons, List.find?_cons, List.find?_cons]
    by_cases h : k = z
    · rw [decide_eq_true h, decide_eq_true (by rw [h])]; rfl
    · rw [decide_eq_false h, decide_eq_false (fun e => h (Sum.inr.inj e))]; exact valD_map f z r
theorem merge_app : ∀ (more kvs : List (Key × D)), ((kvs ++ more).map (·.1)).Nodup → mergeD kvs more = kvs ++ more
  | [], kvs, _ => by rw [List.append_nil]; rfl
  | p :: more, kvs, h => by
    have hn : (kvs.any fun kv => decide (kv.1 = p.1)) = false := by
      rw [List.any_eq_false]
      intro kv hkv e
      have e : kv.1 = p.1 := of_decide_eq_true e
      rw [List.map_append, List.nodup_append] at h
      exact h.2.2 kv.1 (List.mem_map.mpr ⟨kv, hkv, rfl⟩) p.1 (List.mem_map.mpr ⟨p, List.mem_cons_self .., rfl⟩) e
    have e1 : mergeD kvs (p :: more) = mergeD (putD kvs p.1 p.2) more := rfl
    have e2 : putD kvs p.1 p.2 = kvs ++ [p] := by
      unfold putD
      rw [hn]
      rfl
    have e3 : kvs ++ p :: more = kvs ++ [p] ++ more := by simp
    rw [e1, e2, merge_app more (kvs ++ [p]) (by rw [← e3]; exact h), ← e3]
theorem merge_new {more : List (Key × D)} (h : (more.map (·.1)).Nodup) : mergeD [] more = more := merge_app more [] h
theorem cut_take (l : List D) {i : Int} (h : 0 ≤ i) : cutD l none (some i) = l.take i.toNat := by
  unfold cutD
  have e1 : HT.sIx l.length 0 none = 0 := rfl
  have e2 : HT.sIx l.length l.length (some i) = min i.toNat l.length := by
    show (if i < 0 then (i + (l.length : Int)).toNat else min i.toNat l.length) = _
    rw [if_neg (by omega)]
  rw [e1, e2, List.drop_zero, Nat.sub_zero]
  rcases Nat.le_total i.toNat l.length with z | z
  · rw [Nat.min_eq_left z]
  · rw [Nat.min_eq_right z, List.take_length, List.take_of_length_le z]
theorem cut_drop (l : List D) {i : Int} (h : 0 ≤ i) : cutD l (some i) none = l.drop i.toNat := by
  unfold cutD
  have e1 : HT.sIx l.length 0 (some i) = min i.toNat l.length := by
    show (if i < 0 then (i + (l.length : Int)).toNat else min i.toNat l.length) = _
    rw [if_neg (by omega)]
  have e2 : HT.sIx l.length l.length none = l.length := rfl
  rw [e1, e2]
  rcases Nat.le_total i.toNat l.length with z | z
  · rw [Nat.min_eq_left z, List.take_of_length_le (by rw [List.length_drop]; omega)]
  · rw [Nat.min_eq_right z, List.drop_of_length_le (Nat.le_refl _), List.drop_of_length_le z, List.take_nil]
theorem gT2_mk {i j : Nat} {a b : D} {r : DEnv} {P : DEnv → Prop} (h : P (Dl.st (Dl.st r i (some (.dat a))) j (some (.dat b)))) : gT2 i j (.tup [a, b]) r P := h
theorem gT3_mk {i j k : Nat} {a b c : D} {r : DEnv} {P : DEnv → Prop} (h : P (Dl.st (Dl.st (Dl.st r i (some (.dat a))) j (some (.dat b))) k (some (.dat c)))) : gT3 i j k (.tup [a, b, c]) r P := h
theorem gN_mk {i : Nat} {d : D} {r : DEnv} {P : DEnv → Prop} (h : P (Dl.st r i (some (.dat d)))) : gN i d r P := h
end Dl
/-! Dl12: x += e and x -= e of ints, sum, lists told several times. -/
namespace Dl
open PySem PySem.Spec PyProof.Rows L2
section
variable {X : Cx} {W : WX}
/-- x op= e, ints -/
def dAug (f : Int → Int → Int) (i : Nat) (de : DE) : DS := fun xc E r => match lk r i with
  | some (.dat (.int a)) => de xc r fun y => asI (fun b => E.nx (st r i (some (.dat (.int (f a b)))))) y.d
  | _ => False
theorem qs_aug {f : Int → Int → Int} {op : Operator} {i : Nat} {x : Str} {e : Expr} {de : DE} {pos pos' : Pos} {f1 : Bool} (ho : PIp X op (ipI f)) (hN : X.N.Nodup) (hi : X.N[i]? = some x) (hx : Loc X.env.scope x) (he : PE X e (L X.K W f1 de))
    (hf : X.fn x = true ∨ X.env.scope.names.lookup x = some .local := by first | exact .inl rfl | exact .inr rfl | assumption) : PS X (.AugAssign (.Name x pos') op e pos) (LS X.K W (dAug f i de)) := by
  refine imS (ps_aug hN hi hx he ho hf) fun E s H ⟨B, r, xc, De, k, en, h, hx, nx, bk, ct, rt⟩ => ?_
  unfold dAug at h
  split at h
  · rename_i a hl
    obtain ⟨v, h1, h2⟩ := en.at_ i _ hl
    cases h2
    refine ⟨.int a, h1, B, r, xc, _, k, en, h, fun cls d e H' B' z => hx cls d e s r H' B' z.s (en.step z), fun y vy H1 B1 z ry _ q => ?_⟩
    obtain ⟨b, e, q⟩ := asI_elim q
    have ey := rv_int ry e
    subst ey
    exact ⟨a, b, rfl, rfl, nx _ _ _ _ (StepS.set z (x := .dat (.int (f a b))) Fr.dat) (EnvRep.setN en z (x := .dat (.int (f a b))) (Rep.int _) Fr.dat) q⟩
  · exact h.elim
/-! ### sum of a list of ints -/
def intsOf : List D → Option (List Int)
  | [] => some []
  | .int i :: r => (intsOf r).map (i :: ·)
  | _ :: _ => none
theorem ints_rep {K : PySem.W.Frag} {B : Hp} : ∀ {ds : List D} {vs : List V} {ns : List Int}, RepL K B vs ds → intsOf ds = some ns → vs = ns.map V.int
  | [], _, _, .nil, e => by cases e; rfl
  | .int i :: r, _, _, .cons h t, e => by
    cases h
    unfold intsOf at e
    obtain ⟨l, hl, e⟩ := Option.map_eq_some_iff.mp e
    subst e
    rw [ints_rep t hl]
    rfl
theorem intsOf_map {α : Type} (f : α → Int) : ∀ l : List α, intsOf (l.map fun a => D.int (f a)) = some (l.map f)
  | [] => rfl
  | a :: r => by
    show (intsOf (r.map fun a => D.int (f a))).map (f a :: ·) = _
    rw [intsOf_map f r]
    rfl
def fSumD (P : Val → Prop) : D → Prop
  | .lst l => onO (intsOf l) fun ns => P (.dat (.int ns.sum))
  | _ => False
def fSum : F1 := fun x P => fSumD P x.d
theorem rel_sum : RelC1 X.K (rSum X.K) fSum := by
  intro B H x vx P Q k rx h a
  unfold fSum fSumD at h
  split at h
  · rename_i l e
    obtain ⟨ns, hn, h⟩ := onO_elim h
    obtain ⟨p, vs, rfl, hp, rl⟩ := rv_lst k rx e
    have ev := ints_rep rl hn
    subst ev
    exact ⟨p, ns, rfl, .inl (.inl hp), a.dat k (.int _) h⟩
  · exact h.elim
/-! ### list * int -/
theorem RepL.rep {K : PySem.W.Frag} {B : Hp} {vs : List V} {ds : List D} (r : RepL K B vs ds) : ∀ n : Nat, RepL K B (List.replicate n vs).flatten (List.replicate n ds).flatten
  | 0 => .nil
  | n + 1 => by
    rw [List.replicate_succ, List.replicate_succ, List.flatten_cons, List.flatten_cons]
    exact r.append (RepL.rep r n)
def fRepD (P : Val → Prop) : D → D → Prop
  | .lst l, .int k => (-(2 ^ 63) ≤ k ∧ k < 2 ^ 63 ∧ l.length * k.toNat ≤ sizeLine) ∧ P (.tmp (.lst (List.replicate k.toNat l).flatten))
  | _, _ => False
def fRep : F2 := fun x y P => fRepD P x.d y.d
theorem rel_rep {K : PySem.W.Frag} : RelR K rRep fRep := by
  intro B H x y vx vy P Q k rx ry h a
  unfold fRep fRepD at h
  split at h
  · rename_i l n e1 e2
    obtain ⟨p, vs, rfl, hp, rl⟩ := rv_lst k rx e1
    exact ⟨p, n, vs, rfl, rv_int ry e2, hp, h.1.1, h.1.2.1, by rw [rl.length]; exact h.1.2.2, fun q nq => a.newL k (rl.rep _) h.2 nq⟩
  · exact h.elim
theorem q_rep {a b : Expr} {pos : Pos} {da db : DE} {fa fb : Bool} (ha : PE X a (L X.K W fa da)) (hb : PE X b (L X.K W fb db)) : PE X (.BinOp a .Mult b pos) (L X.K W true (dOp fRep da db)) := q_op op_rep rel_rep ha hb
theorem z016 (P : Val → Prop) (l : List D) (k : Int) : (fRepD P (.lst l) (.int k)) = ((-(2 ^ 63) ≤ k ∧ k < 2 ^ 63 ∧ l.length * k.toNat ≤ sizeLine) ∧ P (.tmp (.lst (List.replicate k.toNat l).flatten))) := rfl
theorem z017 (P : Val → Prop) (l : List D) : (fSumD P (.lst l)) = (onO (intsOf l) fun ns => P (.dat (.int ns.sum))) := rfl
end
end Dl
/-! Dl13: draws that are lists, str(int), while, x += a list, what is never come to. -/
namespace Dl
open PySem PySem.Spec PyProof.Rows L2
section
variable {X : Cx} {W : WX}
theorem upd_id {H : Hp} {a : Addr} {o : HO} (h : H a = some o) : upd H a o = H := by
  funext b; unfold upd; split
  · rename_i e; rw [e, h]
  · rfl
/-- a draw's list, seen as a list -/
theorem drl_view {pins : List (Addr × Obj)} {σ : L2.St} {H : Hp} {s : Shared} {a : Addr} (I : Inv X pins σ H s) (h : H a = some (DrL a)) :
    ∃ r m c : Int, (0 ≤ r ∧ 0 ≤ m ∧ m < 2147483647) ∧ Inv X pins σ (upd H a (.lst [.int r, .int m, .int c])) s := by
  obtain ⟨⟨r, m, c, t, u, v, n, e, b⟩, _⟩ := I.hok a _ h
  exact ⟨r, m, c, b, I.write (h' := s.heap) (t' := s.toks) (x := a) (e := a) (by rw [h]; trivial) (.inl rfl) (fun _ _ _ q => q) ⟨_, e⟩ ⟨by show 3 ≤ sizeLine; decide, [.int r t, .int m u, .int c v], n, .cons ⟨t, rfl⟩ (.cons ⟨u, rfl⟩ (.cons ⟨v, rfl⟩ .nil)), e⟩⟩
theorem drl_back {pins : List (Addr × Obj)} {σ : L2.St} {H : Hp} {s : Shared} {a : Addr} {r m c : Int} (I : Inv X pins σ (upd H a (.lst [.int r, .int m, .int c])) s) (h : H a = some (DrL a)) (b : 0 ≤ r ∧ 0 ≤ m ∧ m < 2147483647) : Inv X pins σ H s := by
  obtain ⟨_, its, n, rv, e⟩ := I.hok a _ upd_same
  cases rv with
  | cons r1 rv =>
    cases rv with
    | cons r2 rv =>
      cases rv with
      | cons r3 rv =>
        cases rv
        obtain ⟨t, rfl⟩ := r1
        obtain ⟨u, rfl⟩ := r2
        obtain ⟨v, rfl⟩ := r3
        have I2 := I.write (o := DrL a) (h' := s.heap) (t' := s.toks) (x := a) (e := a) (by rw [upd_same]; trivial) (.inl rfl) (fun _ _ _ q => q) ⟨_, e⟩
          ⟨⟨r, m, c, t, u, v, n, e, b⟩, ⟨_, e⟩, fun h1 h2 ⟨r, m, c, t, u, v, n, e, b⟩ k => ⟨r, m, c, t, u, v, n, k _ e, b⟩⟩
        rw [upd_upd, upd_id h] at I2
        exact I2
/-- what may stand at a place of a draw's list -/
def drlIn (j : Int) (n : Int) : Prop := (j = 0 → 0 ≤ n) ∧ (j = 1 → 0 ≤ n ∧ n < 2147483647)
theorem drl_at {r m c j : Int} (hj : j = 0 ∨ j = 1 ∨ j = 2) (b : 0 ≤ r ∧ 0 ≤ m ∧ m < 2147483647) : ∃ n : Int, atI [V.int r, V.int m, V.int c] j = some (.int n) ∧ drlIn j n := by
  rcases hj with rfl | rfl | rfl
  · exact ⟨r, rfl, fun _ => b.1, (fun z => nomatch z)⟩
  · exact ⟨m, rfl, (fun z => nomatch z), fun _ => b.2⟩
  · exact ⟨c, rfl, (fun z => nomatch z), (fun z => nomatch z)⟩
theorem drl_put {r m c j n : Int} (hj : j = 0 ∨ j = 1 ∨ j = 2) (b : 0 ≤ r ∧ 0 ≤ m ∧ m < 2147483647) (hn : drlIn j n) :
    ∃ k, ixN ([V.int r, V.int m, V.int c] : List V).length j = some k ∧ ∃ r' m' c' : Int, ([V.int r, V.int m, V.int c] : List V).set k (.int n) = [.int r', .int m', .int c'] ∧ 0 ≤ r' ∧ 0 ≤ m' ∧ m' < 2147483647 := by
  rcases hj with rfl | rfl | rfl
  · exact ⟨0, rfl, n, m, c, rfl, hn.1 rfl, b.2⟩
  · exact ⟨1, rfl, r, n, c, rfl, b.1, hn.2 rfl⟩
  · exact ⟨2, rfl, r, m, n, rfl, b⟩
def rIxDrl : R2 := fun x y H Q => ∃ a j, x = .ref a ∧ y = .int j ∧ (j = 0 ∨ j = 1 ∨ j = 2) ∧ H a = some (DrL a) ∧ ∀ n, drlIn j n → Q (.int n) H
theorem ix_drl : IxR X rIxDrl := by
  intro value slice pins s σ H x y v u Q I rx ry h hs
  obtain ⟨a, j, rfl, rfl, hj, ha, q⟩ := h
  obtain ⟨r, m, c, b, I1⟩ := drl_view I ha
  obtain ⟨n, hn, dn⟩ := drl_at hj b
  refine wpAny_mono (ix_list value slice pins s σ _ (.ref a) (.int j) v u (fun z G => z = .int n ∧ G = upd H a (.lst [.int r, .int m, .int c])) I1 rx ry ⟨a, _, j, _, rfl, rfl, .inl (.inl upd_same), hn, rfl, rfl⟩ hs) (fun w s2 ⟨z, G, I2, rz, e1, e2⟩ => ?_) fun _ _ e => e
  subst e1 e2
  exact ⟨.int n, H, drl_back I2 ha b, rz, q n dn⟩
def rSetDrl : TSet := fun o i v H Q => ∃ a j n, o = .ref a ∧ i = .int j ∧ v = .int n ∧ (j = 0 ∨ j = 1 ∨ j = 2) ∧ H a = some (DrL a) ∧ drlIn j n ∧ Q H
theorem set_drl : PSet X rSetDrl := by
  intro pins s σ H o i v ov iv u Q I ro ri rv h
  obtain ⟨a, j, n, rfl, rfl, rfl, hj, ha, dn, q⟩ := h
  obtain ⟨r, m, c, b, I1⟩ := drl_view I ha
  obtain ⟨k, hk, r2, m2, c2, e, b2⟩ := drl_put hj b dn
  refine wpAny_mono (set_list pins s σ _ (.ref a) (.int j) (.int n) ov iv u (fun G => G = upd H a (.lst [.int r2, .int m2, .int c2])) I1 ro ri rv ⟨a, _, j, k, rfl, rfl, upd_same, hk, by rw [upd_upd, e]⟩) (fun w s2 ⟨G, I2, e1⟩ => ?_) fun _ _ e => e
  subst e1
  exact ⟨H, drl_back I2 ha b2, q⟩
theorem get_drl : PGet X rIxDrl := by
  intro pins s σ H o i ov iv Q I ro ri h
  obtain ⟨a, j, rfl, rfl, hj, ha, q⟩ := h
  obtain ⟨r, m, c, b, I1⟩ := drl_view I ha
  obtain ⟨its, rv, pl, hz⟩ := I1.list (.inl (.inl upd_same))
  cases (show ov = Value.ref a from ro)
  obtain ⟨t, rfl⟩ := (show ∃ t, iv = Value.int j t from ri)
  cases rv with
  | cons r1 rv =>
    cases rv with
    | cons r2 rv =>
      cases rv with
      | cons r3 rv =>
        cases rv
        rcases hj with rfl | rfl | rfl
        · exact wpAny_getItem_list pl.isList (by decide) (by decide) rfl ⟨.int r, H, drl_back I1 ha b, r1, q r ⟨fun _ => b.1, (fun z => nomatch z)⟩⟩
        · exact wpAny_getItem_list pl.isList (by decide) (by decide) rfl ⟨.int m, H, drl_back I1 ha b, r2, q m ⟨(fun z => nomatch z), fun _ => b.2⟩⟩
        · exact wpAny_getItem_list pl.isList (by decide) (by decide) rfl ⟨.int c, H, drl_back I1 ha b, r3, q c ⟨(fun z => nomatch z), (fun z => nomatch z)⟩⟩
/-- d[0], d[1], d[2] -/
def dDrawlGet (i : Nat) (j : Int) : DE := fun _ r P => match lk r i with
  | some (.dat .drawl) => ∀ n : Int, drlIn j n → P (.dat (.int n))
  | _ => False
theorem q_drawlGet (i : Nat) {x : Str} {j : Int} {q : Nat} {p1 p2 pos : Pos} (hj : j = 0 ∨ j = 1 ∨ j = 2) (hx : PE X (.Name x p1) (tVar i)) (hs : PlainIx (.Constant (.int j) q p2) := by exact fun _ _ => rfl) :
    PE X (.Subscript (.Name x p1) (.Constant (.int j) q p2) pos) (L X.K W true (dDrawlGet i j)) := by
  refine imE (pe_ix ix_drl hx pe_int hs) fun s H Q ⟨B, r, xc, P, k, en, h, hx, hq⟩ => ?_
  unfold dDrawlGet at h
  split at h
  · rename_i e
    obtain ⟨v, hv, rv⟩ := en.at_ i _ e
    cases rv with
    | @drawl a hb =>
      exact ⟨.ref a, hv, a, j, rfl, rfl, hj, (k _ _ hb).1 DrawO.ext, fun n hn => hq _ (.dat (.int n)) H B (.refl k) (.int n) (fun _ => Fr.dat) (h n hn)⟩
  · exact h.elim
/-- d[j] = e -/
def dDrawlPut (i : Nat) (j : Int) (de : DE) : DS := fun xc E r => match lk r i with
  | some (.dat .drawl) => de xc r fun x => asI (fun n => drlIn j n ∧ E.nx r) x.d
  | _ => False
theorem qs_drawlPut (i : Nat) {x : Str} {j : Int} {q : Nat} {p1 p2 p3 pos : Pos} {e : Expr} {de : DE} {f : Bool} (hj : j = 0 ∨ j = 1 ∨ j = 2) (hx : PE X (.Name x p1) (tVar i)) (he : PE X e (L X.K W f de))
    (ha : ∀ v, assign (.Subscript (.Name x p1) (.Constant (.int j) q p2) p3) X.env v = (do
      let ov ← holding [v] (eval (.Name x p1) X.env)
      let iv ← holding [v, ov] (eval (.Constant (.int j) q p2) X.env)
      standAt p3
      holding [v, ov, iv] (setItem ov iv v)
      release [v, ov, iv] []) := by intro _; rfl)
    (hs : swapsWithSole [.Subscript (.Name x p1) (.Constant (.int j) q p2) p3] e pos.line X.env = pure false := by rfl) (hw : swappedStores [.Subscript (.Name x p1) (.Constant (.int j) q p2) p3] e X.env = pure none := by rfl)
    (h1 : (assignEach [.Subscript (.Name x p1) (.Constant (.int j) q p2) p3] X.env).map (·.2) = [assign (.Subscript (.Name x p1) (.Constant (.int j) q p2) p3) X.env] := by rfl) :
    PS X (.Assign [.Subscript (.Name x p1) (.Constant (.int j) q p2) p3] e pos) (LS X.K W (dDrawlPut i j de)) := by
  refine imS (ps_asg he (pg_sub hx pe_int set_drl ha) hs hw h1) fun E s H ⟨B, r, xc, De, k, en, h, hx, nx, bk, ct, rt⟩ => ?_
  unfold dDrawlPut at h
  split at h
  · rename_i el
    refine ⟨B, r, xc, _, k, en, h, fun cls d e H' B' z => hx cls d e s r H' B' z.s (en.step z), fun v x H1 B1 z rv _ q => ?_⟩
    obtain ⟨n, en2, q⟩ := asI_elim q
    have ev := rv_int rv en2
    subst ev
    obtain ⟨vd, hv, rd⟩ := (en.step z).at_ i _ el
    cases rd with
    | @drawl a hb => exact ⟨.ref a, hv, a, j, n, rfl, rfl, rfl, hj, (z.sub _ _ hb).1 DrawO.ext, q.1, nx _ _ _ _ z.s (en.step z) q.2⟩
  · exact h.elim
/-- d[j] += e -/
def dDrawlAug (i : Nat) (j : Int) (de : DE) : DS := fun xc E r => match lk r i with
  | some (.dat .drawl) => ∀ a, drlIn j a → de xc r fun x => asI (fun n => drlIn j (a + n) ∧ E.nx r) x.d
  | _ => False
theorem qs_drawlAug (i : Nat) {x : Str} {j : Int} {q : Nat} {p1 p2 p3 pos : Pos} {e : Expr} {de : DE} {f : Bool} (hj : j = 0 ∨ j = 1 ∨ j = 2) (hx : PE X (.Name x p1) (tVar i)) (he : PE X e (L X.K W f de))
    (ha : ∀ ov iv new, augStore (.Constant (.int j) q p2) ov iv new = (do holding [new, ov, iv] (setItem ov iv new); release [new, ov, iv] []; pure .next) := by intros; rfl) :
    PS X (.AugAssign (.Subscript (.Name x p1) (.Constant (.int j) q p2) p3) .Add e pos) (LS X.K W (dDrawlAug i j de)) := by
  refine imS (ps_augS hx pe_int get_drl he ip_add set_drl ha) fun E s H ⟨B, r, xc, De, k, en, h, hx, nx, bk, ct, rt⟩ => ?_
  unfold dDrawlAug at h
  split at h
  · rename_i el
    obtain ⟨v, hv, rv⟩ := en.at_ i _ el
    cases rv with
    | @drawl a hb =>
      refine ⟨.ref a, hv, a, j, rfl, rfl, hj, (k _ _ hb).1 DrawO.ext, fun n hn => ?_⟩
      refine ⟨B, r, xc, _, k, en, h n hn, fun cls d e H' B' z => hx cls d e s r H' B' z.s (en.step z), fun v x H1 B1 z rv _ q => ?_⟩
      obtain ⟨n2, en2, q⟩ := asI_elim q
      have ev := rv_int rv en2
      subst ev
      exact ⟨n, n2, rfl, rfl, a, j, n + n2, rfl, rfl, rfl, hj, (z.sub _ _ ((z.kp _ _ hb).1 DrawO.ext)).1 DrawO.ext, q.1, nx _ _ _ _ z.s (en.step z) q.2⟩
  · exact h.elim
/-- a new list that is a draw -/
def dDrawl (de : DE) : DE := fun xc r P => de xc r fun x => (∃ a b c : Int, x = .tmp (.lst [.int a, .int b, .int c]) ∧ 0 ≤ a ∧ 0 ≤ b ∧ b < 2147483647) ∧ P (.dat .drawl)
theorem pe_new {e : Expr} {t : TE} (h : PE X e t) : PE X e (fun s H Q => t s H fun v H1 => ∃ H2, (∀ (σ : L2.St) (pins : List (Addr × Obj)) (s1 : Shared), Inv X pins σ H1 s1 → Inv X pins σ H2 s1) ∧ Q v H2) :=
  ⟨fun pins s σ H Q I a => wpAny_mono (h.run pins s σ H _ I a) (fun v s1 ⟨x, H1, I1, rx, H2, k, q⟩ => ⟨x, H2, k σ pins s1 I1, rx, q⟩) fun _ _ e => e⟩
theorem q_drawl {e : Expr} {de : DE} (h : PE X e (L X.K W true de)) : PE X e (L X.K W true (dDrawl de)) := by
  refine imE (pe_new h) fun s H Q ⟨B, r, xc, P, k, en, h, hx, hq⟩ => ⟨B, r, xc, _, k, en, h, hx, fun v x H1 B1 s1 rx fr q => ?_⟩
  obtain ⟨⟨a, b, c, rfl, h1, h2, h3⟩, q⟩ := q
  obtain ⟨p, rfl, n, vs, hp, rl⟩ := rx
  have np := fr rfl p _ rfl rfl
  have evs : vs = [.int a, .int b, .int c] := by
    cases rl with
    | cons r1 rl =>
      cases rl with
      | cons r2 rl =>
        cases rl with
        | cons r3 rl =>
          cases rl
          cases r1
          cases r2
          cases r3
          rfl
  subst evs
  refine ⟨upd H1 p (DrL p), fun σ pins s2 I => ?_, ?_⟩
  · refine drl_back (a := p) (r := a) (m := b) (c := c) ?_ upd_same ⟨h1, h2, h3⟩
    rw [upd_upd, upd_id hp]
    exact I
  · have z : Step B H (upd B1 p (DrL p)) (upd H1 p (DrL p)) := ⟨s1.kp.trans (.new n), s1.sub.upd2 p _, fun c u e nb => by
      have ne : c ≠ p := fun z => by rw [z, np] at e; cases e
      rw [upd_ne ne, upd_ne ne]
      exact s1.out c u e nb⟩
    exact hq (.ref p) (.dat .drawl) _ _ z (.drawl upd_same) (fun _ => Fr.dat) q
/-! ### str(an int) -/
def fStrD (P : Val → Prop) : D → Prop
  | .int i => i.natAbs.log2 < 1920 ∧ P (.dat (.str (toString i)))
  | _ => False
def fStr : F1 := fun x P => fStrD P x.d
theorem rel_str {K : PySem.W.Frag} : RelC1 K (fun xs H Q => ∃ i, xs = [.int i] ∧ i.natAbs.log2 < 1920 ∧ Q (.str (toString i)) H) fStr := by
  intro B H x vx P Q k rx h a
  unfold fStr fStrD at h
  split at h
  · rename_i i e
    rw [rv_int rx e]
    exact ⟨i, rfl, h.1, a.dat k (.str _) h.2⟩
  · exact h.elim
/-! ### while -/
theorem qs_while {c : Expr} {body : List Stmt} {pos : Pos} {t : DT} {db : DS} (hp : PassesOwn (model X.prog X.w) X.A X.env X.xe) (hc : PT X c (LT X.K W t)) (hb : PSs X body (LS X.K W db)) : PS X (.While c body [] pos) (LS X.K W (dWhile t db)) := by
  refine imS (ps_while hp hc hb) fun E s H ⟨B, r, xc, De, k, en, h, hx, nx, bk, ct, rt⟩ => ?_
  obtain ⟨I, ⟨m0, i0⟩, turn⟩ := h
  refine ⟨fun m s1 H1 => ∃ B1 r1, StepS B H s r B1 H1 s1 r1 ∧ EnvRep X.K B1 H1 s1 r1 ∧ I m r1, ⟨m0, B, r, .refl k, en, i0⟩, ?_⟩
  rintro m s1 H1 ⟨B1, r1, z1, en1, i1⟩
  refine ⟨B1, r1, xc, _, z1.sub, en1, turn m r1 i1, fun cls d e H' B' z => hx cls d e s1 r1 H' B' (z1.trans z.s) (en1.step z), fun b H2 B2 z2 q => ?_⟩
  have en2 := en1.step z2
  have z12 := z1.trans z2.s
  cases b with
  | false =>
    unfold ifB at q; rw [if_neg Bool.false_ne_true] at q
    refine iteF ?_
    exact nx s1 r1 H2 B2 z12 en2 q
  | true =>
    unfold ifB at q; rw [if_pos rfl] at q
    refine iteT ?_
    refine ⟨fun s3 H3 => ∃ m', m' < m ∧ ∃ B3 r3, StepS B H s r B3 H3 s3 r3 ∧ EnvRep X.K B3 H3 s3 r3 ∧ I m' r3, fun s3 H3 h => h, ?_⟩
    refine ⟨B2, r1, xc, _, z2.sub, en2, q, fun cls d e s5 r5 H5 B5 z5 => hx cls d e s5 r5 H5 B5 (z12.trans z5), fun s5 r5 H5 B5 z5 en5 ⟨m', hm, i5⟩ => ⟨m', hm, B5, r5, z12.trans z5, en5, i5⟩, fun s5 r5 H5 B5 z5 => nx s5 r5 H5 B5 (z12.trans z5), fun s5 r5 H5 B5 z5 en5 ⟨m', hm, i5⟩ => ⟨m', hm, B5, r5, z12.trans z5, en5, i5⟩, fun v x H5 B5 z5 => rt v x H5 B5 (z12.trans z5)⟩
/-! ### what is never come to -/
theorem qs_never {st : Stmt} : PS X st (LS X.K W fun _ _ _ => False) := imS ps_never fun E s H ⟨B, r, xc, De, k, en, h, _⟩ => h.elim
/-! ### x += a list -/
theorem fillsI_list : fillsInplaceSlot (.type "list") "add" (Operator.Add == .Add) = pure false := by
  unfold fillsInplaceSlot
  show (typeLookup (.type "list") (dunderI "add") >>= fun fi => pure (fi.isSome && !isSeqSlot fi)) = pure false
  rw [PySem.F.slot_list_iadd.lookup]
  rfl
theorem seqI_list : seqSlot? (.type "list") (dunderI "add") = pure (some (.builtin "list.__iadd__")) := PySem.seqSlot_of PySem.F.slot_list_iadd.lookup (by decide +kernel)
theorem iadd_list {prog : Program} {w : World} {A : Around} {E : Value → Shared → Prop} {s : Shared} {l b : Addr} {xs ys : Array Value} {n m : Nat} {Q : Value → Shared → Prop} (hl : IsL s.heap l xs n) (hb : IsL s.heap b ys m) (hz : xs.size + ys.size ≤ sizeLine)
    (h : Q (.ref l) { s with heap := s.heap.update l (Obj.mapSeq fun x => x ++ ys) }) : wpAny (model prog w) A (inplaceOp .Add (.ref l) (.ref b)) Q E s := by
  unfold inplaceOp
  refine wpAny_holding ?_
  refine wpAny_bind (wpAny_typeOf (T := "list") ⟨_, hl, rfl⟩ (wpAny_bind (wpAny_of_eq fillsI_list ?_)))
  show wpAny _ _ (if false = true then _ else _) Q E s
  rw [if_neg Bool.false_ne_true]
  refine wpAny_bind (wpAny_binaryOp1_none (nm := "add") (T := "list") ⟨_, hl, rfl⟩ ⟨_, hb, rfl⟩ noFill_list_add ?_)
  refine wpAny_bind (wpAny_of_eq seqI_list (wpAny_bind (wpAny_rule ?_)))
  exact call_meets PySem.F.slot_list_iadd ⟨_, hl, rfl⟩ PySem.F.entry_list_iadd (PySem.F.args_list_iadd_2 _ _) (AutoSeq1.list___iadd___list_list_0 l xs n b ys m (by unfold Builtin.List.listTooLong; simp; omega) (by omega) (by omega)) ⟨hl, hb, h⟩
def rIaddL : V → V → Hp → VK → Prop := fun x y H Q => ∃ p q xs ys, x = .ref p ∧ y = .ref q ∧ H p = some (.lst xs) ∧ H q = some (.lst ys) ∧ xs.length + ys.length ≤ sizeLine ∧ Q (.ref p) (upd H p (.lst (xs ++ ys)))
theorem ip_list : PIp X .Add rIaddL := by
  intro pins s σ H x y v u Q I r1 r2 h
  obtain ⟨p, q, xs, ys, rfl, rfl, hp, hq, hz, h⟩ := h
  cases r1
  cases r2
  obtain ⟨it1, n1, v1, o1, z1⟩ := I.lst hp
  obtain ⟨it2, n2, v2, o2, z2⟩ := I.lst hq
  have l1 := v1.length
  have l2 := v2.length
  refine iadd_list o1 o2 (by simp only [List.size_toArray]; omega) ?_
  refine ⟨.ref p, _, I.lstUpd (its' := it1 ++ it2) (n' := if (it1 ++ it2).toArray.size == it1.toArray.size then n1 else n1 + 1) hp o1 ?_ (v1.append v2) (by rw [List.length_append]; exact hz) s.toks, rfl, h⟩
  simp [Obj.mapSeq]
/-- x += e -/
def extD (l : List D) (P : Ct → Prop) : D → Prop
  | .lst m => l.length + m.length ≤ sizeLine ∧ P (.lst (l ++ m))
  | _ => False
def dAugL (i : Nat) (de : DE) : DS := fun xc E r => match lk r i with
  | some (.tmp (.lst l)) => de xc r fun y => extD l (fun c => E.nx (st r i (some (.tmp c)))) y.d
  | _ => False
theorem set_self {σ : L2.St} {i : Nat} {x : Option V} (h : σ[i]? = some x) : σ.set i x = σ := by
  apply List.ext_getElem?
  intro j
  by_cases e : i = j
  · subst e
    rw [h, List.getElem?_set_self (List.getElem?_eq_some_iff.mp h).1]
  · rw [List.getElem?_set_ne e]
theorem qs_augL {i : Nat} {x : Str} {e : Expr} {de : DE} {pos pos' : Pos} {f1 : Bool} (hN : X.N.Nodup) (hi : X.N[i]? = some x) (hx : Loc X.env.scope x) (he : PE X e (L X.K W f1 de))
    (hf : X.fn x = true ∨ X.env.scope.names.lookup x = some .local := by first | exact .inl rfl | exact .inr rfl | assumption) : PS X (.AugAssign (.Name x pos') .Add e pos) (LS X.K W (dAugL i de)) := by
  refine imS (ps_aug hN hi hx he ip_list hf) fun E s H ⟨B, r, xc, De, k, en, h, hx, nx, bk, ct, rt⟩ => ?_
  unfold dAugL at h
  split at h
  · rename_i l hl
    obtain ⟨p, hp, n, w⟩ := own_at en hl
    obtain ⟨vs, hv, rl⟩ := id w
    refine ⟨.ref p, hp, B, r, xc, _, k, en, h, fun cls d e H' B' z => hx cls d e s r H' B' z.s (en.step z), fun y vy H1 B1 z ry _ q => ?_⟩
    unfold extD at q
    split at q
    · rename_i m em
      obtain ⟨a, ws, rfl, hw, rm⟩ := rv_lst z.sub ry em
      have hv1 := z.out p _ hv n
      have rl1 := rl.mono z.kp
      obtain ⟨en2, z2⟩ := own_write (o := .lst (vs ++ ws)) (c' := .lst (l ++ m)) z.sub (en.step z) hl hp hv1.2 ⟨_, upd_same, rl1.append rm⟩
      refine ⟨p, a, vs, ws, rfl, rfl, hv1.1, hw, by rw [rl1.length, rm.length]; exact q.1, ?_⟩
      show E.nx (List.set s i (some (.ref p))) _
      rw [set_self hp]
      exact nx _ _ _ _ (z.s.trans z2) en2 q.2
    · exact q.elim
  · exact h.elim
/-! ### a product of which one is small -/
def fMulS : F2 := fI CMul fun i j => .int (i * j)
theorem q_mulS {a b : Expr} {pos : Pos} {da db : DE} {fa fb : Bool} (ha : PE X a (L X.K W fa da)) (hb : PE X b (L X.K W fb db)) : PE X (.BinOp a .Mult b pos) (L X.K W true (dOp fMulS da db)) := q_op op_mul (rel_I (fun _ _ => rfl) fun _ _ => rfl) ha hb
theorem z018 (P : Val → Prop) (i : Int) : (fStrD P (.int i)) = (i.natAbs.log2 < 1920 ∧ P (.dat (.str (toString i)))) := rfl
theorem z019 (l m : List D) (P : Ct → Prop) : (extD l P (.lst m)) = (l.length + m.length ≤ sizeLine ∧ P (.lst (l ++ m))) := rfl
end
end Dl
namespace Cl
open PySem PySem.Spec PyProof.Rows L2 Dl
local macro_rules | `(tactic| walk_at "dl") => `(tactic| dsimp only [dSeq, dSet, dRet, dRetV, dRetN, dDrop, dIfS, dNext, dBreak, dCont, dC, dVar, dVarM, dOp, dUn, dChain, dB, dTru, dAnd, dOr, dNot, dAndV, dOrV, dNotV, dIf, dSh, dNil, dCons, dTup, dLst, dCall, dCallX, dIt, dRng1, dRng2, dYes, dLc, dFor, dM1, dSl, dNo, dPart, dRevS, dDisp, dNewD, dDrawGet, dDrawPut, dDraw, dFz, dAppend, lk, Dl.st, fz, fI, fI0, fSub, fMul, fMod, fDiv, fPow, fLt, fLe, fGt, fGe, fNeg, fAdd, fIs, fIsNot, fEq, fNe, fIn, fTru, fIx, fSl, fLen, fAbs, fInt, fMax, fMin, fList, fTuple, fAll, fAny, fIsi, fSplit, fJoin, fIt, gN, gT2, gT3, wp, dGet1, dGet2, dKGet, dUpdate, dPutI, dZip, fEqE, dAug, fSum, fRep, dDrawlGet, dDrawlPut, dDrawlAug, dDrawl, dAugL, dWhile, fStr, fMulS, y001, y002, y003, y004, y005, y006, y007, y008, y009, y010, y011, y012, y013, y014, y015, y016, y017, y018, y019, y020, y021, y022, y023, y024, y025, y026, y027, y028, y029, y030, y031, y032, y033, y034, y035, y036, y037, y038, y039, y040, y041, y042, y043, y044, y045, y046, y047, y048, y049, y050, y051, y052, y053, y054, y055, y056, y057, y058, y059, y060, y061, y062, y063, y064, y065, y066, y067, y068, y069, y070, y071, y072, y073, y074, y075, y076, y077, y078, y079, y080, y081, y082, y083, y084, y085, y086, y087, y088, y089, y090, y091, y092, y093, y094, y095, y096, y097, y098, y099, y100, y101, y102, y103, y104, y105, y106, y107, y108, y109, y110, y111, y112, y113, y114, y115, y116, y117, y118, y119, y120, y121, y122, y123, y124, y125, y126, y127, y128, y129, y130, y131, y132, y133, y134, y135, y136, y137, y138, y139, y140, y141, y142, y143, y144, y145, y146, y147, y148, y149, y150, y151, y152, y153, y154, y155, y156, y157, y158, y159, y160, y161, y162, y163, y164, y165, y166, y167, y168, y169, y170, y171, z001, z002, z003, z004, z005, z006, z007, z008, z009, z010, z011, z012, z013, z014, z015, z016, z017, z018, z019])
local macro_rules | `(tactic| walk_at "sz") => `(tactic| repeat (refine And.intro (small_sz (by (try simp only [len_app, revS_length, List.length_cons, List.length_nil, List.length_append, List.length_map]); omega)) ?_))
def LET : Str := "abcdefghijklmnopqrstuvwxyz"
def KEPTL : List Str := ["number", "truth", "name", "gap", "let", "fun", "call", "pair", "first", "second", "none", "add", "fold", "again", "if", "plus", "minus", "less", "same", "yes", "no", "num", "list", "any"]
/-- is it a name -/
def nameS (s : Str) : Bool := decide (1 ≤ s.length ∧ s.length ≤ 6) && !decide (s ∈ KEPTL) && s.cps.toList.all fun c => decide (c ∈ LET.cps.toList)
def nameB : D → Bool
  | .str s => nameS s
  | _ => false
/-- a thing that may be asked: not too long -/
def askOk : D → Prop
  | .str s => s.length ≤ 1000 ∧ okS s
  | d => d.plain = true
theorem chars_of {L : List Nat} : ∀ {acc : List D}, (∀ d ∈ acc, ∃ c ∈ L, d = .str ⟨#[c]⟩) → ∃ cs : List Nat, acc = cs.map (fun c => D.str ⟨#[c]⟩) ∧ ∀ c ∈ cs, c ∈ L
  | [], _ => ⟨[], rfl, fun _ h => nomatch h⟩
  | d :: r, h => by
    obtain ⟨c, hc, e⟩ := h d (List.mem_cons_self ..)
    obtain ⟨cs, e2, h2⟩ := chars_of fun x hx => h x (List.mem_cons_of_mem _ hx)
    refine ⟨c :: cs, by rw [e, e2]; rfl, fun x hx => ?_⟩
    rcases List.mem_cons.mp hx with rfl | hx
    · exact hc
    · exact h2 x hx
theorem kept_q : KEPTL.all (fun w => nameS (cutS w none (some 5) ++ "q")) = true := by decide +kernel
theorem let_len : LET.length = 26 := by decide +kernel
theorem let_eq : ("abcdefghijklmnopqrstuvwxyz" : Str) = LET := rfl
theorem name_len {s : Str} (h : nameS s = true) : 1 ≤ s.length ∧ s.length ≤ 6 := by
  unfold nameS at h
  rw [Bool.and_eq_true, Bool.and_eq_true] at h
  exact of_decide_eq_true h.1.1
theorem name_not {s : Str} (h : nameS s = true) : ¬ s ∈ KEPTL := by
  unfold nameS at h
  rw [Bool.and_eq_true, Bool.and_eq_true] at h
  exact of_decide_eq_false (by simpa using h.1.2)
theorem let_ok : okS LET := by
  have h : LET.cps.toList.all (fun c => decide (c < 0x110000)) = true := by decide +kernel
  exact fun c hc => of_decide_eq_true (List.all_eq_true.mp h c hc)
theorem name_ok {s : Str} (h : nameS s = true) : okS s := by
  unfold nameS at h
  rw [Bool.and_eq_true, Bool.and_eq_true] at h
  exact fun c hc => let_ok c (of_decide_eq_true (List.all_eq_true.mp h.2 c hc))
theorem first_of {s : Str} (h : nameS s = true) {P : Nat → Prop} (q : ∀ c, c < 0x110000 → P c) : onO (atI s.cps.toList 0) P := by
  have hl := name_len h
  obtain ⟨c, hc, hm⟩ := atI_get (l := s.cps.toList) (i := 0) (by omega) (by
    rw [Array.length_toList]
    show (0 : Int) < ((s.length : Nat) : Int)
    omega)
  exact onO_of hc (q c (name_ok h c hm))
theorem nameS_no1 {s : Str} (h : ¬ (1 ≤ s.length ∧ s.length ≤ 6)) : nameS s = false := by
  unfold nameS
  rw [decide_eq_false h]
  rfl
theorem nameS_no2 {s : Str} (h : s ∈ KEPTL) : nameS s = false := by
  unfold nameS
  rw [decide_eq_true h]
  simp
theorem nameS_yes {s : Str} (h : 1 ≤ s.length ∧ s.length ≤ 6) (h2 : ¬ s ∈ KEPTL) : nameS s = s.cps.toList.all fun c => decide (c ∈ LET.cps.toList) := by
  unfold nameS
  rw [decide_eq_true h, decide_eq_false h2]
  rfl
theorem chars_bl (f : Nat → Bool) (g : D → D) (hg : ∀ c, g (.str ⟨#[c]⟩) = .bl (f c)) (l : List Nat) : blsOf ((l.map fun c => D.str ⟨#[c]⟩).map g) = some (l.map f) := by
  rw [List.map_map]
  have e : (g ∘ fun c => D.str ⟨#[c]⟩) = fun c => D.bl (f c) := funext hg
  rw [e]
  exact blsOf_map f l
/-- the sign of a text of one -/
def signOf : D → Nat
  | .str ⟨⟨[c]⟩⟩ => c
  | _ => 0
theorem none_left {α : Type} (p : α → Bool) : ∀ l : List α, (l.filter fun c => !p c).isEmpty = l.all p
  | [] => rfl
  | a :: r => by
    cases h : p a with
    | true => rw [List.filter_cons_of_neg (by rw [h]; decide), List.all_cons, h, none_left p r]; rfl
    | false => rw [List.filter_cons_of_pos (by rw [h]; decide), List.all_cons, h]; rfl
theorem safe_nil : (Ct.dic []).safe := fun a b m h => by
  have := congrArg List.length h
  cases this
/-! ### terms -/
def SGT : List (Str × Str) := [("number", "v"), ("truth", "b"), ("name", "x"), ("gap", "x"), ("let", "xtt"), ("fun", "xt"), ("call", "tt"), ("pair", "tt"), ("first", "t"), ("second", "t"), ("none", ""), ("add", "tt"), ("fold", "ttxxt"), ("again", "ttxt"), ("if", "ttt"), ("plus", "tt"), ("minus", "tt"), ("less", "tt"), ("same", "tt")]
/-- the signs of a word -/
def sgn (w : Str) : Option Str := (SGT.find? fun p => decide (p.1 = w)).map (·.2)
/-- a part that is no term, by its sign -/
def single (c : Nat) (d : D) : Bool := if c = 120 then nameB d else d.isi .int && (d.isi .bool == decide (c = 98))
/-- the parts' sizes put together -/
def szs (f : D → Option Nat) : List Nat → List D → Option Nat
  | [], [] => some 0
  | c :: cs, p :: ps => match (if c = 116 then f p else if single c p then some 0 else none), szs f cs ps with
    | some a, some b => some (a + b)
    | _, _ => none
  | _, _ => none
/-- fold's two names are alike -/
def alike (w : Str) (ps : List D) : Bool := decide (w = "fold") && match ps with
  | [_, _, .str a, .str b, _] => decide (a = b)
  | _ => false
/-- how many parts a term has, if it is one not deeper than n -/
def size : Nat → D → Option Nat
  | n + 1, .tup (.str w :: ps) => match sgn w with
    | some s => if ps.length = s.length then (if alike w ps then none else (szs (size n) s.cps.toList ps).map (· + 1)) else none
    | none => none
  | _, _ => none
theorem size_zero (d : D) : size 0 d = none := by unfold size; rfl
theorem size_succ (n : Nat) (w : Str) (ps : List D) : size (n + 1) (.tup (.str w :: ps)) = match sgn w with
    | some s => if ps.length = s.length then (if alike w ps then none else (szs (size n) s.cps.toList ps).map (· + 1)) else none
    | none => none := rfl
/-- it has the form that is looked at first -/
def headed : D → Option (Str × List D)
  | .tup (.str w :: ps) => some (w, ps)
  | _ => none
theorem size_unheaded {n : Nat} {d : D} (h : headed d = none) : size n d = none := by
  unfold size
  split
  · cases h
  · rfl
theorem sgt_short : SGT.all (fun p => decide (p.2.length ≤ 5) && p.2.cps.toList.all fun c => decide (c < 0x110000)) = true := by decide +kernel
theorem sgn_mem {w s : Str} (h : sgn w = some s) : (w, s) ∈ SGT := by
  unfold sgn at h
  obtain ⟨p, hp, e⟩ := Option.map_eq_some_iff.mp h
  have h1 := List.find?_some hp
  have h2 := List.mem_of_find?_eq_some hp
  have e1 : p.1 = w := of_decide_eq_true h1
  have e2 : (w, s) = p := by rw [← e1, ← e]
  rw [e2]
  exact h2
theorem sgn_short {w s : Str} (h : sgn w = some s) : s.length ≤ 5 ∧ okS s := by
  have q := List.all_eq_true.mp sgt_short _ (sgn_mem h)
  rw [Bool.and_eq_true] at q
  exact ⟨of_decide_eq_true q.1, fun c hc => of_decide_eq_true (List.all_eq_true.mp q.2 c hc)⟩
theorem sgn_fold {s : Str} (h : sgn "fold" = some s) : s = "ttxxt" := by
  have e : sgn "fold" = some "ttxxt" := by decide +kernel
  rw [e] at h
  exact (Option.some.inj h).symm
/-- what is left of l -/
def lefts (o : Option Nat) (l : Int) : Int := match o with
  | some k => if (k : Int) ≤ l then l - k else -1
  | none => -1
/-! ### terms as a type -/
inductive Tm where
  | num (i : Int) | tru (b : Bool) | nam (s : Str) | gap (s : Str) | non
  | t1 (w : Str) (a : Tm)
  | t2 (w : Str) (a b : Tm)
  | lt (x : Str) (a b : Tm) | fn (x : Str) (a : Tm)
  | fo (a b : Tm) (x y : Str) (c : Tm) | ag (a b : Tm) (x : Str) (c : Tm) | iff (a b c : Tm)
/-- the words of one part, of two parts -/
def W1 : List Str := ["first", "second"]
def W2 : List Str := ["call", "pair", "add", "plus", "minus", "less", "same"]
namespace Tm
/-- a further part: a name, or a term -/
inductive P where
  | s (x : Str) | t (a : Tm) | i (n : Int) | b (v : Bool)
def word : Tm → Str
  | num _ => "number" | tru _ => "truth" | nam _ => "name" | gap _ => "gap" | non => "none"
  | t1 w _ => w | t2 w _ _ => w | lt _ _ _ => "let" | fn _ _ => "fun" | fo _ _ _ _ _ => "fold" | ag _ _ _ _ => "again" | iff _ _ _ => "if"
def pars : Tm → List P
  | num i => [.i i] | tru b => [.b b] | nam s => [.s s] | gap s => [.s s] | non => []
  | t1 _ a => [.t a] | t2 _ a b => [.t a, .t b] | lt x a b => [.s x, .t a, .t b] | fn x a => [.s x, .t a] | fo a b x y c => [.t a, .t b, .s x, .s y, .t c] | ag a b x c => [.t a, .t b, .s x, .t c] | iff a b c => [.t a, .t b, .t c]
def d : Tm → D
  | num i => .tup [.str "number", .int i]
  | tru b => .tup [.str "truth", .bl b]
  | nam s => .tup [.str "name", .str s]
  | gap s => .tup [.str "gap", .str s]
  | non => .tup [.str "none"]
  | t1 w a => .tup [.str w, a.d]
  | t2 w a b => .tup [.str w, a.d, b.d]
  | lt x a b => .tup [.str "let", .str x, a.d, b.d]
  | fn x a => .tup [.str "fun", .str x, a.d]
  | fo a b x y c => .tup [.str "fold", a.d, b.d, .str x, .str y, c.d]
  | ag a b x c => .tup [.str "again", a.d, b.d, .str x, c.d]
  | iff a b c => .tup [.str "if", a.d, b.d, c.d]
def P.d : P → D
  | s x => .str x
  | t a => a.d
  | i n => .int n
  | b v => .bl v
/-- it is one as the document has it, of numbers to sixty figures -/
def ok : Tm → Prop
  | num i => i.natAbs < 10 ^ 61
  | tru _ => True
  | nam s => nameS s = true
  | gap s => nameS s = true
  | non => True
  | t1 w a => w ∈ W1 ∧ a.ok
  | t2 w a b => w ∈ W2 ∧ a.ok ∧ b.ok
  | lt x a b => nameS x = true ∧ a.ok ∧ b.ok
  | fn x a => nameS x = true ∧ a.ok
  | fo a b x y c => nameS x = true ∧ nameS y = true ∧ x ≠ y ∧ a.ok ∧ b.ok ∧ c.ok
  | ag a b x c => nameS x = true ∧ a.ok ∧ b.ok ∧ c.ok
  | iff a b c => a.ok ∧ b.ok ∧ c.ok
def P.ok : P → Prop
  | s x => nameS x = true
  | t a => a.ok
  | _ => True
/-- how many parts -/
def many : Tm → Nat
  | t1 _ a => a.many + 1 | t2 _ a b => a.many + b.many + 1 | lt _ a b => a.many + b.many + 1 | fn _ a => a.many + 1
  | fo a b _ _ c => a.many + b.many + c.many + 1 | ag a b _ c => a.many + b.many + c.many + 1 | iff a b c => a.many + b.many + c.many + 1
  | _ => 1
/-- how many within one another -/
def deep : Tm → Nat
  | t1 _ a => a.deep + 1 | t2 _ a b => max a.deep b.deep + 1 | lt _ a b => max a.deep b.deep + 1 | fn _ a => a.deep + 1
  | fo a b _ _ c => max (max a.deep b.deep) c.deep + 1 | ag a b _ c => max (max a.deep b.deep) c.deep + 1 | iff a b c => max (max a.deep b.deep) c.deep + 1
  | _ => 1
def P.many : P → Nat
  | t a => a.many
  | _ => 0
def P.deep : P → Nat
  | t a => a.deep
  | _ => 0
/-- the words by which it is written -/
def wds : Tm → List Str
  | num i => [toString i]
  | tru b => [if b then "yes" else "no"]
  | nam s => [s]
  | gap s => ["?" ++ s]
  | non => ["none"]
  | t1 w a => w :: a.wds
  | t2 w a b => w :: (a.wds ++ b.wds)
  | lt x a b => "let" :: x :: (a.wds ++ b.wds)
  | fn x a => "fun" :: x :: a.wds
  | fo a b x y c => "fold" :: (a.wds ++ (b.wds ++ x :: y :: c.wds))
  | ag a b x c => "again" :: (a.wds ++ (b.wds ++ x :: c.wds))
  | iff a b c => "if" :: (a.wds ++ (b.wds ++ c.wds))
def P.wds : P → List Str
  | s x => [x]
  | t a => a.wds
  | _ => []
/-- a form with further parts, none of the four that are written otherwise -/
def plain : Tm → Prop
  | num _ => False | tru _ => False | nam _ => False | gap _ => False
  | _ => True
theorem d_eq (t : Tm) : t.d = .tup (.str t.word :: t.pars.map P.d) := by cases t <;> rfl
theorem d_tup (t : Tm) : t.d.isi .tuple = true := by cases t <;> rfl
theorem wds_plain {t : Tm} (h : t.plain) : t.wds = t.word :: t.pars.flatMap P.wds := by
  cases t <;> first | exact h.elim | rfl | (simp [wds, word, pars, P.wds, List.flatMap_cons])
theorem many_pars (t : Tm) : t.many = (t.pars.map P.many).sum + 1 := by
  cases t <;> simp [many, pars, P.many] <;> omega
theorem deep_pars (t : Tm) : t.deep = (t.pars.map P.deep).foldl max 0 + 1 := by
  cases t <;> simp [deep, pars, P.deep] <;> omega
theorem pars_ok {t : Tm} (h : t.ok) : ∀ p ∈ t.pars, p.ok := by
  cases t <;> simp [pars, P.ok, ok] at h ⊢ <;> simp [h, P.ok]
theorem deep_pos (t : Tm) : 1 ≤ t.deep := by cases t <;> simp [deep]
theorem many_pos (t : Tm) : 1 ≤ t.many := by cases t <;> simp [many]
theorem pars_deep {t : Tm} {a : Tm} (h : P.t a ∈ t.pars) : a.deep < t.deep := by
  cases t <;> simp [pars, deep] at h ⊢ <;> (try rcases h with rfl | rfl | rfl) <;> (try rcases h with rfl | rfl) <;> (try subst h) <;> omega
theorem pars_many {t : Tm} {a : Tm} (h : P.t a ∈ t.pars) : a.many < t.many := by
  cases t <;> simp [pars, many] at h ⊢ <;> (try rcases h with rfl | rfl | rfl) <;> (try rcases h with rfl | rfl) <;> (try subst h) <;> omega
theorem pars_len (t : Tm) : t.pars.length ≤ 5 := by cases t <;> simp [pars]
/-! its texts -/
theorem w1_len {w : Str} (h : w ∈ W1) : w.length ≤ 6 ∧ okS w := by
  simp only [W1, List.mem_cons, List.not_mem_nil, or_false] at h
  rcases h with rfl | rfl <;> exact ⟨by decide, by unfold okS; decide⟩
theorem w2_len {w : Str} (h : w ∈ W2) : w.length ≤ 6 ∧ okS w := by
  simp only [W2, List.mem_cons, List.not_mem_nil, or_false] at h
  rcases h with rfl | rfl | rfl | rfl | rfl | rfl | rfl <;> exact ⟨by decide, by unfold okS; decide⟩
theorem word_len {t : Tm} (h : t.ok) : t.word.length ≤ 6 ∧ okS t.word := by
  cases t with
  | t1 w a => exact w1_len h.1
  | t2 w a b => exact w2_len h.1
  | num => exact (show ("number" : Str).length ≤ 6 ∧ okS "number" from ⟨by decide, by unfold okS; decide⟩)
  | tru => exact (show ("truth" : Str).length ≤ 6 ∧ okS "truth" from ⟨by decide, by unfold okS; decide⟩)
  | nam => exact (show ("name" : Str).length ≤ 6 ∧ okS "name" from ⟨by decide, by unfold okS; decide⟩)
  | gap => exact (show ("gap" : Str).length ≤ 6 ∧ okS "gap" from ⟨by decide, by unfold okS; decide⟩)
  | non => exact (show ("none" : Str).length ≤ 6 ∧ okS "none" from ⟨by decide, by unfold okS; decide⟩)
  | lt => exact (show ("let" : Str).length ≤ 6 ∧ okS "let" from ⟨by decide, by unfold okS; decide⟩)
  | fn => exact (show ("fun" : Str).length ≤ 6 ∧ okS "fun" from ⟨by decide, by unfold okS; decide⟩)
  | fo => exact (show ("fold" : Str).length ≤ 6 ∧ okS "fold" from ⟨by decide, by unfold okS; decide⟩)
  | ag => exact (show ("again" : Str).length ≤ 6 ∧ okS "again" from ⟨by decide, by unfold okS; decide⟩)
  | iff => exact (show ("if" : Str).length ≤ 6 ∧ okS "if" from ⟨by decide, by unfold okS; decide⟩)
/-- a name, or a word -/
def short (s : Str) : Prop := s.length ≤ 6 ∧ okS s
theorem short_name {s : Str} (h : nameS s = true) : short s := ⟨(name_len h).2, name_ok h⟩
theorem okT_short {m : Nat} {s : Str} (h : short s) : okT m (.str s) = true := okT_str.mpr ⟨by have := h.1; omega, h.2⟩
theorem okT_d : ∀ {t : Tm}, t.ok → okT 101 t.d = true := by
  have two : ∀ (l : List D), (∀ x ∈ l, okT 101 x = true) → l.length ≤ 101 → okT 101 (.tup l) = true := fun l h1 h2 => okT_tup.mpr ⟨h1, h2⟩
  intro t
  induction t with
  | num i => exact fun _ => two _ (by intro x hx; simp only [List.mem_cons, List.not_mem_nil, or_false] at hx; rcases hx with rfl | rfl; exact okT_short ⟨by decide, by unfold okS; decide⟩; rfl) (by show 2 ≤ 101; decide)
  | tru i => exact fun _ => two _ (by intro x hx; simp only [List.mem_cons, List.not_mem_nil, or_false] at hx; rcases hx with rfl | rfl; exact okT_short ⟨by decide, by unfold okS; decide⟩; rfl) (by show 2 ≤ 101; decide)
  | nam s => exact fun h => two _ (by intro x hx; simp only [List.mem_cons, List.not_mem_nil, or_false] at hx; rcases hx with rfl | rfl; exact okT_short ⟨by decide, by unfold okS; decide⟩; exact okT_short (short_name h)) (by show 2 ≤ 101; decide)
  | gap s => exact fun h => two _ (by intro x hx; simp only [List.mem_cons, List.not_mem_nil, or_false] at hx; rcases hx with rfl | rfl; exact okT_short ⟨by decide, by unfold okS; decide⟩; exact okT_short (short_name h)) (by show 2 ≤ 101; decide)
  | non => exact fun h => two _ (by intro x hx; simp only [List.mem_cons, List.not_mem_nil, or_false] at hx; rw [hx]; exact okT_short ⟨by decide, by unfold okS; decide⟩) (by show 1 ≤ 101; decide)
  | t1 w a ia => exact fun h => two _ (by intro x hx; simp only [List.mem_cons, List.not_mem_nil, or_false] at hx; rcases hx with rfl | rfl; exact okT_short (w1_len h.1); exact ia h.2) (by show 2 ≤ 101; decide)
  | t2 w a b ia ib => exact fun h => two _ (by intro x hx; simp only [List.mem_cons, List.not_mem_nil, or_false] at hx; rcases hx with rfl | rfl | rfl; exact okT_short (w2_len h.1); exact ia h.2.1; exact ib h.2.2) (by show 3 ≤ 101; decide)
  | lt x a b ia ib => exact fun h => two _ (by intro x hx; simp only [List.mem_cons, List.not_mem_nil, or_false] at hx; rcases hx with rfl | rfl | rfl | rfl; exact okT_short ⟨by decide, by unfold okS; decide⟩; exact okT_short (short_name h.1); exact ia h.2.1; exact ib h.2.2) (by show 4 ≤ 101; decide)
  | fn x a ia => exact fun h => two _ (by intro x hx; simp only [List.mem_cons, List.not_mem_nil, or_false] at hx; rcases hx with rfl | rfl | rfl; exact okT_short ⟨by decide, by unfold okS; decide⟩; exact okT_short (short_name h.1); exact ia h.2) (by show 3 ≤ 101; decide)
  | fo a b x y c ia ib ic => exact fun h => two _ (by intro x hx; simp only [List.mem_cons, List.not_mem_nil, or_false] at hx; rcases hx with rfl | rfl | rfl | rfl | rfl | rfl; exact okT_short ⟨by decide, by unfold okS; decide⟩; exact ia h.2.2.2.1; exact ib h.2.2.2.2.1; exact okT_short (short_name h.1); exact okT_short (short_name h.2.1); exact ic h.2.2.2.2.2) (by show 6 ≤ 101; decide)
  | ag a b x c ia ib ic => exact fun h => two _ (by intro x hx; simp only [List.mem_cons, List.not_mem_nil, or_false] at hx; rcases hx with rfl | rfl | rfl | rfl | rfl; exact okT_short ⟨by decide, by unfold okS; decide⟩; exact ia h.2.1; exact ib h.2.2.1; exact okT_short (short_name h.1); exact ic h.2.2.2) (by show 5 ≤ 101; decide)
  | iff a b c ia ib ic => exact fun h => two _ (by intro x hx; simp only [List.mem_cons, List.not_mem_nil, or_false] at hx; rcases hx with rfl | rfl | rfl | rfl; exact okT_short ⟨by decide, by unfold okS; decide⟩; exact ia h.1; exact ib h.2.1; exact ic h.2.2) (by show 4 ≤ 101; decide)
/-! its size, as the program counts -/
theorem sgn_w1 {w : Str} (h : w ∈ W1) : sgn w = some "t" := by
  simp only [W1, List.mem_cons, List.not_mem_nil, or_false] at h
  rcases h with rfl | rfl <;> decide +kernel
theorem sgn_w2 {w : Str} (h : w ∈ W2) : sgn w = some "tt" := by
  simp only [W2, List.mem_cons, List.not_mem_nil, or_false] at h
  rcases h with rfl | rfl | rfl | rfl | rfl | rfl | rfl <;> decide +kernel
theorem not_fold {w : Str} {ps : List D} (h : w ≠ "fold") : alike w ps = false := by unfold alike; rw [decide_eq_false h]; rfl
theorem w1_fold {w : Str} (h : w ∈ W1) : w ≠ "fold" := by
  simp only [W1, List.mem_cons, List.not_mem_nil, or_false] at h
  rcases h with rfl | rfl <;> decide
theorem w2_fold {w : Str} (h : w ∈ W2) : w ≠ "fold" := by
  simp only [W2, List.mem_cons, List.not_mem_nil, or_false] at h
  rcases h with rfl | rfl | rfl | rfl | rfl | rfl | rfl <;> decide
theorem szs_t {f : D → Option Nat} {cs : List Nat} {p : D} {ps : List D} {a b : Nat} (h1 : f p = some a) (h2 : szs f cs ps = some b) : szs f (116 :: cs) (p :: ps) = some (a + b) := by
  show (match (if (116 : Nat) = 116 then f p else if single 116 p then some 0 else none), szs f cs ps with
    | some a, some b => some (a + b)
    | _, _ => none) = _
  rw [if_pos rfl, h1, h2]
theorem szs_x {f : D → Option Nat} {cs : List Nat} {x : Str} {ps : List D} {b : Nat} (h1 : nameS x = true) (h2 : szs f cs ps = some b) : szs f (120 :: cs) (.str x :: ps) = some b := by
  show (match (if (120 : Nat) = 116 then f (.str x) else if single 120 (.str x) then some 0 else none), szs f cs ps with
    | some a, some b => some (a + b)
    | _, _ => none) = _
  rw [if_neg (by decide), show single 120 (.str x) = true from h1, if_pos rfl, h2]
  show some (0 + b) = some b
  rw [Nat.zero_add]
theorem szs_nil {f : D → Option Nat} : szs f [] [] = some 0 := rfl
theorem size_of' {n : Nat} {w s : Str} {ps : List D} {k : Nat} (h1 : sgn w = some s) (h2 : ps.length = s.length) (h3 : alike w ps = false) (h4 : szs (size n) s.cps.toList ps = some k) : size (n + 1) (.tup (.str w :: ps)) = some (k + 1) := by
  rw [size_succ, h1]
  show (if ps.length = s.length then (if alike w ps then none else (szs (size n) s.cps.toList ps).map (· + 1)) else none) = _
  rw [if_pos h2, h3, h4]
  rfl
theorem size_d : ∀ {t : Tm} {n : Nat}, t.ok → t.deep ≤ n → size n t.d = some t.many := by
  intro t
  induction t with
  | num i => intro n h hn; cases n with
    | zero => exact absurd hn (by simp [deep])
    | succ n => exact size_of' (w := "number") (s := "v") (k := 0) (by decide +kernel) rfl (not_fold (by decide)) rfl
  | tru i => intro n h hn; cases n with
    | zero => exact absurd hn (by simp [deep])
    | succ n => exact size_of' (w := "truth") (s := "b") (k := 0) (by decide +kernel) rfl (not_fold (by decide)) rfl
  | nam s => intro n h hn; cases n with
    | zero => exact absurd hn (by simp [deep])
    | succ n => exact size_of' (w := "name") (s := "x") (k := 0) (by decide +kernel) rfl (not_fold (by decide)) (szs_x h szs_nil)
  | gap s => intro n h hn; cases n with
    | zero => exact absurd hn (by simp [deep])
    | succ n => exact size_of' (w := "gap") (s := "x") (k := 0) (by decide +kernel) rfl (not_fold (by decide)) (szs_x h szs_nil)
  | non => intro n h hn; cases n with
    | zero => exact absurd hn (by simp [deep])
    | succ n => exact size_of' (w := "none") (s := "") (k := 0) (by decide +kernel) rfl (not_fold (by decide)) rfl
  | t1 w a ia => intro n h hn; cases n with
    | zero => exact absurd hn (by simp [deep])
    | succ n =>
      simp only [deep] at hn
      exact size_of' (w := w) (s := "t") (sgn_w1 h.1) rfl (not_fold (w1_fold h.1)) (szs_t (ia h.2 (by omega)) szs_nil)
  | t2 w a b ia ib => intro n h hn; cases n with
    | zero => exact absurd hn (by simp [deep])
    | succ n =>
      simp only [deep] at hn
      exact size_of' (w := w) (s := "tt") (sgn_w2 h.1) rfl (not_fold (w2_fold h.1)) (szs_t (ia h.2.1 (by omega)) (szs_t (ib h.2.2 (by omega)) szs_nil))
  | lt x a b ia ib => intro n h hn; cases n with
    | zero => exact absurd hn (by simp [deep])
    | succ n =>
      simp only [deep] at hn
      exact size_of' (w := "let") (s := "xtt") (by decide +kernel) rfl (not_fold (by decide)) (szs_x h.1 (szs_t (ia h.2.1 (by omega)) (szs_t (ib h.2.2 (by omega)) szs_nil)))
  | fn x a ia => intro n h hn; cases n with
    | zero => exact absurd hn (by simp [deep])
    | succ n =>
      simp only [deep] at hn
      exact size_of' (w := "fun") (s := "xt") (by decide +kernel) rfl (not_fold (by decide)) (szs_x h.1 (szs_t (ia h.2 (by omega)) szs_nil))
  | fo a b x y c ia ib ic => intro n h hn; cases n with
    | zero => exact absurd hn (by simp [deep])
    | succ n =>
      simp only [deep] at hn
      have e : a.many + b.many + c.many + 1 = a.many + (b.many + (c.many + 0)) + 1 := by omega
      show _ = some (a.many + b.many + c.many + 1)
      rw [e]
      exact size_of' (w := "fold") (s := "ttxxt") (by decide +kernel) rfl (by show (decide (("fold" : Str) = "fold") && decide (x = y)) = false; rw [decide_eq_false h.2.2.1]; simp) (szs_t (ia h.2.2.2.1 (by omega)) (szs_t (ib h.2.2.2.2.1 (by omega)) (szs_x h.1 (szs_x h.2.1 (szs_t (ic h.2.2.2.2.2 (by omega)) szs_nil)))))
  | ag a b x c ia ib ic => intro n h hn; cases n with
    | zero => exact absurd hn (by simp [deep])
    | succ n =>
      simp only [deep] at hn
      have e : a.many + b.many + c.many + 1 = a.many + (b.many + (c.many + 0)) + 1 := by omega
      show _ = some (a.many + b.many + c.many + 1)
      rw [e]
      exact size_of' (w := "again") (s := "ttxt") (by decide +kernel) rfl (not_fold (by decide)) (szs_t (ia h.2.1 (by omega)) (szs_t (ib h.2.2.1 (by omega)) (szs_x h.1 (szs_t (ic h.2.2.2 (by omega)) szs_nil))))
  | iff a b c ia ib ic => intro n h hn; cases n with
    | zero => exact absurd hn (by simp [deep])
    | succ n =>
      simp only [deep] at hn
      have e : a.many + b.many + c.many + 1 = a.many + (b.many + (c.many + 0)) + 1 := by omega
      show _ = some (a.many + b.many + c.many + 1)
      rw [e]
      exact size_of' (w := "if") (s := "ttt") (by decide +kernel) rfl (not_fold (by decide)) (szs_t (ia h.1 (by omega)) (szs_t (ib h.2.1 (by omega)) (szs_t (ic h.2.2 (by omega)) szs_nil)))
/-! its words -/
theorem num_len {i : Int} (h : i.natAbs < 10 ^ 61) : (toString i : Str).length ≤ 62 := by
  have e := int_text_length_le10 (k := 61) (by decide) h
  show (Str.ofString (toString i)).length ≤ 62
  rw [PySem.ofString_length]
  exact e
theorem okS_ofString (s : String) : okS (Str.ofString s) := by
  intro c hc
  rw [Str.ofString_eq_toList] at hc
  have hc : c ∈ s.toList.map Char.toNat := by simpa using hc
  obtain ⟨k, _, rfl⟩ := List.mem_map.mp hc
  have := k.valid
  have h2 : k.toNat < 0x110000 := by
    rcases this with h | ⟨_, h⟩
    · exact Nat.lt_trans h (by decide)
    · exact h
  exact h2
theorem okS_app {a b : Str} (ha : okS a) (hb : okS b) : okS (a ++ b) := fun c hc => by
  rw [app_toList] at hc
  rcases List.mem_append.mp hc with h | h
  · exact ha c h
  · exact hb c h
def fine (s : Str) : Prop := s.length ≤ 62 ∧ okS s
theorem short.fine {s : Str} (h : short s) : fine s := ⟨by have := h.1; omega, h.2⟩
theorem fine_wds : ∀ {t : Tm}, t.ok → ∀ s ∈ t.wds, fine s := by
  intro t
  have nm : ∀ {x : Str}, nameS x = true → fine x := fun h => (short_name h).fine
  have wd : ∀ {x : Str}, x.length ≤ 6 → x.cps.toList.all (fun c => decide (c < 0x110000)) = true → fine x := fun h1 h2 => ⟨by omega, fun c hc => of_decide_eq_true (List.all_eq_true.mp h2 c hc)⟩
  induction t with
  | num i => intro h s hs; rw [List.mem_singleton.mp hs]; exact ⟨num_len h, okS_ofString _⟩
  | tru b => intro h s hs; rw [List.mem_singleton.mp hs]; cases b <;> exact wd (by decide) (by decide +kernel)
  | nam x => intro h s hs; rw [List.mem_singleton.mp hs]; exact nm h
  | gap x =>
    intro h s hs
    rw [List.mem_singleton.mp hs]
    refine ⟨?_, okS_app (by unfold okS; decide) (name_ok h)⟩
    have := name_len h
    rw [len_app, show ("?" : Str).length = 1 by decide]
    omega
  | non => intro h s hs; rw [List.mem_singleton.mp hs]; exact wd (by decide) (by decide +kernel)
  | t1 w a ia =>
    intro h s hs
    rcases List.mem_cons.mp hs with rfl | hs
    · exact (show short s from w1_len h.1).fine
    · exact ia h.2 s hs
  | t2 w a b ia ib =>
    intro h s hs
    rcases List.mem_cons.mp hs with rfl | hs
    · exact (show short s from w2_len h.1).fine
    · rcases List.mem_append.mp hs with hs | hs
      · exact ia h.2.1 s hs
      · exact ib h.2.2 s hs
  | lt x a b ia ib =>
    intro h s hs
    simp only [wds, List.mem_cons, List.mem_append] at hs
    rcases hs with rfl | rfl | hs | hs
    · exact wd (by decide) (by decide +kernel)
    · exact nm h.1
    · exact ia h.2.1 s hs
    · exact ib h.2.2 s hs
  | fn x a ia =>
    intro h s hs
    simp only [wds, List.mem_cons] at hs
    rcases hs with rfl | rfl | hs
    · exact wd (by decide) (by decide +kernel)
    · exact nm h.1
    · exact ia h.2 s hs
  | fo a b x y c ia ib ic =>
    intro h s hs
    simp only [wds, List.mem_cons, List.mem_append] at hs
    rcases hs with rfl | hs | hs | rfl | rfl | hs
    · exact wd (by decide) (by decide +kernel)
    · exact ia h.2.2.2.1 s hs
    · exact ib h.2.2.2.2.1 s hs
    · exact nm h.1
    · exact nm h.2.1
    · exact ic h.2.2.2.2.2 s hs
  | ag a b x c ia ib ic =>
    intro h s hs
    simp only [wds, List.mem_cons, List.mem_append] at hs
    rcases hs with rfl | hs | hs | rfl | hs
    · exact wd (by decide) (by decide +kernel)
    · exact ia h.2.1 s hs
    · exact ib h.2.2.1 s hs
    · exact nm h.1
    · exact ic h.2.2.2 s hs
  | iff a b c ia ib ic =>
    intro h s hs
    simp only [wds, List.mem_cons, List.mem_append] at hs
    rcases hs with rfl | hs | hs | hs
    · exact wd (by decide) (by decide +kernel)
    · exact ia h.1 s hs
    · exact ib h.2.1 s hs
    · exact ic h.2.2 s hs
theorem wds_len (t : Tm) : t.wds.length ≤ 3 * t.many := by
  induction t <;> simp [wds, many] <;> omega
/-- the text -/
def txt (t : Tm) : Str := Txt.join " " t.wds
theorem joinL_mem {S : List Nat} : ∀ {l : List (List Nat)} {c : Nat}, c ∈ TL.joinL S l → c ∈ S ∨ ∃ p ∈ l, c ∈ p
  | [], c, h => nomatch h
  | [p], c, h => .inr ⟨p, List.mem_cons_self .., h⟩
  | p :: q :: r, c, h => by
    have h : c ∈ p ++ (S ++ TL.joinL S (q :: r)) := h
    rcases List.mem_append.mp h with h | h
    · exact .inr ⟨p, List.mem_cons_self .., h⟩
    · rcases List.mem_append.mp h with h | h
      · exact .inl h
      · rcases joinL_mem h with h | ⟨x, hx, h⟩
        · exact .inl h
        · exact .inr ⟨x, List.mem_cons_of_mem _ hx, h⟩
theorem joinL_len {S : List Nat} {m : Nat} : ∀ {l : List (List Nat)}, (∀ p ∈ l, p.length ≤ m) → (TL.joinL S l).length ≤ l.length * (m + S.length)
  | [], _ => Nat.zero_le _
  | [p], h => by
    have := h p (List.mem_cons_self ..)
    show p.length ≤ 1 * _
    omega
  | p :: q :: r, h => by
    have h1 := h p (List.mem_cons_self ..)
    have h2 := joinL_len (S := S) (l := q :: r) fun x hx => h x (List.mem_cons_of_mem _ hx)
    show (p ++ (S ++ TL.joinL S (q :: r))).length ≤ ((q :: r).length + 1) * (m + S.length)
    rw [List.length_append, List.length_append, Nat.add_mul]
    omega
theorem tl_txt (t : Tm) : t.txt.cps.toList = TL.joinL [32] (t.wds.map fun s => s.cps.toList) := by
  show TL.tl _ = _
  unfold txt
  rw [TL.join_eq, TL.tl_join]
  rfl
theorem txt_ok {t : Tm} (h : t.ok) : okS t.txt := fun c hc => by
  rw [tl_txt] at hc
  rcases joinL_mem hc with h1 | ⟨p, hp, h1⟩
  · rw [List.mem_singleton.mp h1]; decide
  · obtain ⟨s, hs, rfl⟩ := List.mem_map.mp hp
    exact (fine_wds h s hs).2 c h1
theorem txt_len {t : Tm} (h : t.ok) : t.txt.length ≤ t.wds.length * 63 := by
  have e : t.txt.length = t.txt.cps.toList.length := by rw [Array.length_toList]; rfl
  rw [e, tl_txt]
  have h1 := joinL_len (S := [32]) (m := 62) (l := t.wds.map fun s => s.cps.toList) fun p hp => by
    obtain ⟨s, hs, rfl⟩ := List.mem_map.mp hp
    rw [Array.length_toList]
    exact (fine_wds h s hs).1
  rw [List.length_map] at h1
  exact h1
theorem plain_word {t : Tm} (h : t.ok) (hp : t.plain) : t.word ≠ "number" ∧ t.word ≠ "truth" ∧ t.word ≠ "name" ∧ t.word ≠ "gap" := by
  cases t with
  | num _ => exact hp.elim
  | tru _ => exact hp.elim
  | nam _ => exact hp.elim
  | gap _ => exact hp.elim
  | t1 w a =>
    have h1 : w ∈ W1 := h.1
    simp only [W1, List.mem_cons, List.not_mem_nil, or_false] at h1
    show w ≠ _ ∧ w ≠ _ ∧ w ≠ _ ∧ w ≠ _
    rcases h1 with rfl | rfl <;> decide
  | t2 w a b =>
    have h1 : w ∈ W2 := h.1
    simp only [W2, List.mem_cons, List.not_mem_nil, or_false] at h1
    show w ≠ _ ∧ w ≠ _ ∧ w ≠ _ ∧ w ≠ _
    rcases h1 with rfl | rfl | rfl | rfl | rfl | rfl | rfl <;> decide
  | non => exact (show ("none" : Str) ≠ "number" ∧ ("none" : Str) ≠ "truth" ∧ ("none" : Str) ≠ "name" ∧ ("none" : Str) ≠ "gap" by decide)
  | lt _ _ _ => exact (show ("let" : Str) ≠ "number" ∧ ("let" : Str) ≠ "truth" ∧ ("let" : Str) ≠ "name" ∧ ("let" : Str) ≠ "gap" by decide)
  | fn _ _ => exact (show ("fun" : Str) ≠ "number" ∧ ("fun" : Str) ≠ "truth" ∧ ("fun" : Str) ≠ "name" ∧ ("fun" : Str) ≠ "gap" by decide)
  | fo _ _ _ _ _ => exact (show ("fold" : Str) ≠ "number" ∧ ("fold" : Str) ≠ "truth" ∧ ("fold" : Str) ≠ "name" ∧ ("fold" : Str) ≠ "gap" by decide)
  | ag _ _ _ _ => exact (show ("again" : Str) ≠ "number" ∧ ("again" : Str) ≠ "truth" ∧ ("again" : Str) ≠ "name" ∧ ("again" : Str) ≠ "gap" by decide)
  | iff _ _ _ => exact (show ("if" : Str) ≠ "number" ∧ ("if" : Str) ≠ "truth" ∧ ("if" : Str) ≠ "name" ∧ ("if" : Str) ≠ "gap" by decide)
theorem plain_pars {t : Tm} (hp : t.plain) : ∀ p ∈ t.pars, (∃ x, p = .s x) ∨ ∃ a, p = .t a := by
  cases t <;> first | exact hp.elim | (simp [pars])
theorem take_snoc {α : Type} {l : List α} {i : Nat} {p : α} (h : l[i]? = some p) : l.take (i + 1) = l.take i ++ [p] := by rw [List.take_add_one, h]; rfl
theorem flat_take {α β : Type} (f : α → List β) (l : List α) (i : Nat) : ((l.take i).flatMap f).length ≤ (l.flatMap f).length := by
  have e : l.flatMap f = (l.take i).flatMap f ++ (l.drop i).flatMap f := by rw [← List.flatMap_append, List.take_append_drop]
  rw [e, List.length_append]
  omega
/-- the words ahead of a part, and its own, are no more than all -/
theorem wds_room {t : Tm} (hp : t.plain) {i : Nat} {p : P} (h : t.pars[i]? = some p) : (t.word :: (t.pars.take i).flatMap P.wds).length + p.wds.length ≤ t.wds.length := by
  have h1 := flat_take P.wds t.pars (i + 1)
  rw [take_snoc h, List.flatMap_append, List.length_append, List.flatMap_cons, List.flatMap_nil, List.append_nil] at h1
  rw [wds_plain hp, List.length_cons, List.length_cons]
  omega
theorem sum_le {m : Nat} : ∀ {l : List Str}, (∀ s ∈ l, s.length ≤ m) → (l.map (·.length)).sum ≤ l.length * m
  | [], _ => Nat.zero_le _
  | a :: r, h => by
    have h1 := h a (List.mem_cons_self ..)
    have h2 := sum_le (l := r) fun x hx => h x (List.mem_cons_of_mem _ hx)
    rw [List.map_cons, List.sum_cons, List.length_cons, Nat.add_mul]
    omega
theorem join_ok {t : Tm} (h : t.ok) (hm : t.wds.length ≤ 10000) : (t.wds.map (·.length)).sum + t.wds.length * (" " : Str).length ≤ 16777216 := by
  have h1 := sum_le (m := 62) fun s hs => (fine_wds h s hs).1
  have e : (" " : Str).length = 1 := by decide
  rw [e]
  omega
end Tm
theorem sz {n : Nat} (h : Nat.ble n 100000 = true) : n ≤ sizeLine := Nat.le_trans (Nat.le_of_ble_eq_true h) (by decide)
theorem ifB_or2 {p q : Prop} [Decidable p] [Decidable q] {A B : Prop} (a : A) (b : ¬ p → ¬ q → B) : ifB (decide p) A (ifB (decide q) A B) :=
  ifB_dec (fun _ => a) fun h => ifB_dec (fun _ => a) fun h2 => b h h2
def sp_is_name : DSp := fun ds _ P => ∃ d, ds = [d] ∧ askOk d ∧ P (.dat (.bl (nameB d)))
def sp_is_single : DSp := fun ds _ P => ∃ (c : Nat) (d : D), ds = [.str ⟨#[c]⟩, d] ∧ c < 0x110000 ∧ okT 101 d = true ∧ P (.dat (.bl (single c d)))
def sp_left_behind (n : Nat) : DSp := fun ds _ P => ∃ (d : D) (l : Int) (k : Nat), ds = [d, .int l, .int k] ∧ k < n ∧ okT 101 d = true ∧ P (.dat (.int (lefts (size k d) l)))
def sp_is_term : DSp := fun ds _ P => ∃ d, ds = [d] ∧ okT 101 d = true ∧ P (.dat (.bl (decide (0 ≤ lefts (size 40 d) 200))))
def sp_words_of_term (n : Nat) : DSp := fun ds _ P => ∃ t : Tm, ds = [t.d] ∧ t.ok ∧ t.deep ≤ n ∧ t.wds.length ≤ 10000 ∧ P (.tmp (.lst (t.wds.map D.str)))
def sp_term_text : DSp := fun ds _ P => ∃ t : Tm, ds = [t.d] ∧ t.ok ∧ t.deep ≤ 40 ∧ t.many ≤ 200 ∧ P (.dat (.str t.txt))
def sp_w_mixed : DSp := fun ds _ P => ∃ c k : Int, ds = [.int c, .int k] ∧ ∀ r : Int, 0 ≤ r → r < 2147483399 → P (.dat (.int r))
def sp_w_draw : DSp := fun ds _ P => ∃ ns k, ds = [.scr ns, .int k] ∧ 0 ≤ k ∧ P (.dat .drawl)
def sp_w_next : DSp := fun ds _ P => ∃ n, ds = [.drawl, .int n] ∧ 0 < n ∧ n < 2 ^ 100 ∧ ∀ r, 0 ≤ r → r < n → P (.dat (.int r))
def sp_w_pick : DSp := fun ds _ P => ∃ c l, ds = [.drawl, c] ∧ (c = .lst l ∨ c = .tup l ∨ ∃ z : Str, c = .str z ∧ z.length ≤ 1000 ∧ l = z.cps.toList.map fun k => D.str ⟨#[k]⟩) ∧ 0 < l.length ∧ l.length < 100000 ∧ ∀ d ∈ l, P (.dat d)
def sp_w_kept : DSp := fun ds _ P => ds = [] ∧ P (.tmp (.lst (KEPTL.map D.str)))
def sp_w_name : DSp := fun ds _ P => ds = [.drawl] ∧ ∀ s, nameS s = true → P (.dat (.str s))
def sp_w_number : DSp := fun ds _ P => ds = [.drawl] ∧ ∀ i : Int, i.natAbs < 10 ^ 61 → P (.dat (.int i))
def sp_w_leaf : DSp := fun ds _ P => ds = [.drawl] ∧ ∀ t : Tm, t.ok → t.deep = 1 → P (.dat t.d)
def sp_w_term (n : Nat) : DSp := fun ds _ P => ∃ k : Int, ds = [.drawl, .int k] ∧ 0 ≤ k ∧ k < n ∧ ∀ t : Tm, t.ok → t.deep ≤ k + 1 → P (.dat t.d)
def sp_w_size (n : Nat) : DSp := fun ds _ P => ∃ t : Tm, ds = [t.d] ∧ t.ok ∧ t.deep ≤ n ∧ P (.dat (.tup [.int t.many, .int t.deep]))
def sp_w_words (n : Nat) : DSp := sp_words_of_term n
def sp_w_fit : DSp := fun ds _ P => ds = [.drawl, .int 5] ∧ ∀ t : Tm, t.ok → t.deep ≤ 6 → t.many ≤ 200 → P (.dat t.d)
def sp_w_just (n : Nat) : DSp := fun ds _ P => ∃ m : Int, ds = [.drawl, .int m] ∧ 1 ≤ m ∧ m < 2 ^ n ∧ ∀ t : Tm, t.ok → t.deep ≤ n → (t.many : Int) = m → P (.dat t.d)
def sp_w_chain : DSp := fun ds _ P => ds = [.drawl, .int 40] ∧ ∀ t : Tm, t.ok → t.deep ≤ 40 → t.many ≤ 40 → P (.dat t.d)
def sp_law : DSp := fun ds _ P => ∃ ns : List Int, ds = [.scr ns] ∧ ns.length ≤ 63 ∧ P (.dat (.bl true))
def g_KEPT : D := (.tup [(.str "number"), (.str "truth"), (.str "name"), (.str "gap"), (.str "let"), (.str "fun"), (.str "call"), (.str "pair"), (.str "first"), (.str "second"), (.str "none"), (.str "add"), (.str "fold"), (.str "again"), (.str "if"), (.str "plus"), (.str "minus"), (.str "less"), (.str "same"), (.str "yes"), (.str "no"), (.str "num"), (.str "list"), (.str "any")])
def g_LETTERS : D := (.str "abcdefghijklmnopqrstuvwxyz")
def g_MOST_DEEP : D := (.int 40)
def g_MOST_LETTERS : D := (.int 6)
def g_MOST_PARTS : D := (.int 200)
def tab_SIGNS : List (Str × D) := [("number", (.str "v")), ("truth", (.str "b")), ("name", (.str "x")), ("gap", (.str "x")), ("let", (.str "xtt")), ("fun", (.str "xt")), ("call", (.str "tt")), ("pair", (.str "tt")), ("first", (.str "t")), ("second", (.str "t")), ("none", (.str "")), ("add", (.str "tt")), ("fold", (.str "ttxxt")), ("again", (.str "ttxt")), ("if", (.str "ttt")), ("plus", (.str "tt")), ("minus", (.str "tt")), ("less", (.str "tt")), ("same", (.str "tt"))]
/-! is_name -/
abbrev N_is_name : List Str := ["thing", "sign"]
def d_is_name : DS :=
  (dSeq (dIfS (dOr (dNot (dB (dUn (fIsi .str) (dVar 0)))) (dOr (dNot (dB (dChain fLe fLe (dC (.int 1)) (dUn fLen (dVar 0)) (dC g_MOST_LETTERS)))) (dB (dOp (fIn false) (dVar 0) (dC g_KEPT)))))
  (dRet (dC (.bl false)))
  dNext)
  (dRet (dUn fAll (dLc (dIt (dVarM 0)) (gN 1) dYes (dOp (fIn false) (dVar 1) (dC g_LETTERS)) [1]))))
/-! is_single -/
abbrev N_is_single : List Str := ["sign", "thing"]
def d_is_single : DS :=
  (dSeq (dIfS (dB (dOp fEq (dVar 0) (dC (.str "x"))))
  (dRet (dCall sp_is_name (dCons (dVarM 1) dNil)))
  dNext)
  (dRet (dAndV (dUn (fIsi .int) (dVar 1)) (dOp fEq (dUn (fIsi .bool) (dVar 1)) (dOp fEq (dVar 0) (dC (.str "b")))))))
/-! left_behind -/
abbrev N_left_behind : List Str := ["thing", "left", "levels", "signs", "sign", "part"]
def d_left_behind (n : Nat) : DS :=
  (dSeq (dIfS (dOr (dB (dOp fLt (dVar 1) (dC (.int 1)))) (dOr (dB (dOp fLt (dVar 2) (dC (.int 1)))) (dOr (dNot (dB (dUn (fIsi .tuple) (dVar 0)))) (dOr (dB (dOp fEqE (dVar 0) (dTup dNil))) (dNot (dB (dUn (fIsi .str) (dOp fIx (dVar 0) (dC (.int 0))))))))))
  (dRet (dUn fNeg (dC (.int 1))))
  dNext)
  (dSeq (dSet 3 (dKGet tab_SIGNS (dOp fIx (dVar 0) (dC (.int 0))) (dC .non)))
  (dSeq (dIfS (dOr (dB (dOp fIs (dVar 3) (dC .non))) (dB (dOp fNe (dUn fLen (dVar 0)) (dOp fAdd (dUn fLen (dVar 3)) (dC (.int 1))))))
  (dRet (dUn fNeg (dC (.int 1))))
  dNext)
  (dSeq (dSet 1 (dOp fSub (dVar 1) (dC (.int 1))))
  (dSeq (dFor (dZip (dCons (dVarM 3) (dCons (dSl (dVar 0) (dPart (dC (.int 1))) dNo) dNil))) (gT2 4 5)
  (dSeq (dIfS (dB (dOp fEq (dVar 4) (dC (.str "t"))))
  (dSet 1 (dCall (sp_left_behind n) (dCons (dVarM 5) (dCons (dVarM 1) (dCons (dOp fSub (dVar 2) (dC (.int 1))) dNil)))))
  (dIfS (dNot (dB (dCall sp_is_single (dCons (dVarM 4) (dCons (dVarM 5) dNil)))))
  (dSet 1 (dUn fNeg (dC (.int 1))))
  dNext))
  (dIfS (dB (dOp fLt (dVar 1) (dC (.int 0))))
  (dRet (dUn fNeg (dC (.int 1))))
  dNext)))
  (dSeq (dIfS (dAnd (dB (dOp fEq (dOp fIx (dVar 0) (dC (.int 0))) (dC (.str "fold")))) (dB (dOp fEq (dOp fIx (dVar 0) (dC (.int 3))) (dOp fIx (dVar 0) (dC (.int 4))))))
  (dRet (dUn fNeg (dC (.int 1))))
  dNext)
  (dRetV 1)))))))
/-! is_term -/
abbrev N_is_term : List Str := ["thing"]
def d_is_term : DS :=
  (dRet (dOp fGe (dCall (sp_left_behind 41) (dCons (dVarM 0) (dCons (dC g_MOST_PARTS) (dCons (dC g_MOST_DEEP) dNil)))) (dC (.int 0))))
/-! words_of_term -/
abbrev N_words_of_term : List Str := ["term", "words", "thing"]
def d_words_of_term (n : Nat) : DS :=
  (dSeq (dIfS (dB (dOp fEq (dOp fIx (dVar 0) (dC (.int 0))) (dC (.str "number"))))
  (dRet (dLst (dCons (dUn fStr (dOp fIx (dVar 0) (dC (.int 1)))) dNil)))
  dNext)
  (dSeq (dIfS (dB (dOp fEq (dOp fIx (dVar 0) (dC (.int 0))) (dC (.str "truth"))))
  (dRet (dLst (dCons (dIf (dTru (dOp fIx (dVar 0) (dC (.int 1)))) (dC (.str "yes")) (dC (.str "no"))) dNil)))
  dNext)
  (dSeq (dIfS (dB (dOp fEq (dOp fIx (dVar 0) (dC (.int 0))) (dC (.str "name"))))
  (dRet (dLst (dCons (dOp fIx (dVar 0) (dC (.int 1))) dNil)))
  dNext)
  (dSeq (dIfS (dB (dOp fEq (dOp fIx (dVar 0) (dC (.int 0))) (dC (.str "gap"))))
  (dRet (dLst (dCons (dOp fAdd (dC (.str "?")) (dOp fIx (dVar 0) (dC (.int 1)))) dNil)))
  dNext)
  (dSeq (dSet 1 (dLst (dCons (dOp fIx (dVar 0) (dC (.int 0))) dNil)))
  (dSeq (dFor (dIt (dSl (dVar 0) (dPart (dC (.int 1))) dNo)) (gN 2)
  (dAugL 1 (dIf (dB (dUn (fIsi .tuple) (dVar 2))) (dSh (dCall (sp_words_of_term n) (dCons (dVarM 2) dNil))) (dSh (dLst (dCons (dVarM 2) dNil))))))
  (dRetV 1)))))))
/-! term_text -/
abbrev N_term_text : List Str := ["term"]
def d_term_text : DS :=
  (dSeq (dIfS (dNot (dB (dCall sp_is_term (dCons (dVarM 0) dNil))))
  (fun _ _ _ => False)
  dNext)
  (dRet (dM1 fJoin (dC (.str " ")) (dCall (sp_words_of_term 41) (dCons (dVarM 0) dNil)))))
/-! mixed -/
abbrev N_w_mixed : List Str := ["_law_cell", "_law_k", "_law_mix"]
def d_w_mixed : DS :=
  (dSeq (dSet 2 (dOp fMod (dOp fMulS (dOp fAdd (dOp fAdd (dOp fMod (dVar 0) (dC (.int 2147483647))) (dOp fMulS (dC (.int 7919)) (dVar 1))) (dC (.int 11))) (dC (.int 48271))) (dC (.int 2147483647))))
  (dRet (dOp fMod (dOp fAdd (dOp fMulS (dVar 2) (dVar 2)) (dOp fMulS (dC (.int 40692)) (dVar 2))) (dC (.int 2147483399)))))
/-! draw -/
abbrev N_w_draw : List Str := ["_law_script", "_law_k", "_law_cell"]
def d_w_draw : DS :=
  (dSeq (dSet 2 (dC (.int 0)))
  (dSeq (dIfS (dB (dOp fLt (dVar 1) (dUn fLen (dVar 0))))
  (dSet 2 (dOp fIx (dVar 0) (dVar 1)))
  dNext)
  (dRet (dDrawl (dLst (dCons (dOp fMax (dC (.int 0)) (dOp fSub (dVar 2) (dOp fPow (dC (.int 10)) (dC (.int 18))))) (dCons (dCall sp_w_mixed (dCons (dVarM 2) (dCons (dOp fAdd (dC (.int 300)) (dVar 1)) dNil))) (dCons (dC (.int 0)) dNil))))))))
/-! next -/
abbrev N_w_next : List Str := ["_law_draw_here", "_law_size_here", "_law_digit"]
def d_w_next : DS :=
  (dSeq (dIfS (dB (dOp fGt (dDrawlGet 0 0) (dC (.int 0))))
  (dSeq (dSet 2 (dOp fMod (dDrawlGet 0 0) (dVar 1)))
  (dSeq (dDrawlPut 0 0 (dOp fDiv (dDrawlGet 0 0) (dVar 1)))
  (dRetV 2)))
  dNext)
  (dSeq (dDrawlAug 0 2 (dC (.int 1)))
  (dRet (dOp fMod (dOp fDiv (dCall sp_w_mixed (dCons (dDrawlGet 0 1) (dCons (dDrawlGet 0 2) dNil))) (dC (.int 7))) (dVar 1)))))
/-! pick -/
abbrev N_w_pick : List Str := ["_law_draw_here", "_law_some"]
def d_w_pick : DS :=
  (dRet (dOp fIx (dVar 1) (dCall sp_w_next (dCons (dVarM 0) (dCons (dUn fLen (dVar 1)) dNil)))))
/-! kept -/
abbrev N_w_kept : List Str := ["_law_words_here"]
def d_w_kept : DS :=
  (dSeq (dSet 0 (dC (.str "number truth name gap let fun call pair first second none add fold again if plus")))
  (dRet (dM1 fSplit (dOp fAdd (dVar 0) (dC (.str " minus less same yes no num list any"))) (dC (.str " ")))))
/-! name -/
abbrev N_w_name : List Str := ["_law_draw_here", "_law_way", "_law_size_here", "_law_word", "_law_near", "_law_k"]
def d_w_name : DS :=
  (dSeq (dSet 1 (dCall sp_w_next (dCons (dVarM 0) (dCons (dC (.int 3)) dNil))))
  (dSeq (dIfS (dB (dOp fEq (dVar 1) (dC (.int 0))))
  (dRet (dCall sp_w_pick (dCons (dVarM 0) (dCons (dSh (dLst (dCons (dC (.str "x")) (dCons (dC (.str "y")) (dCons (dC (.str "xs")) (dCons (dC (.str "a")) (dCons (dC (.str "b")) (dCons (dC (.str "g")) dNil)))))))) dNil))))
  dNext)
  (dSeq (dIfS (dB (dOp fEq (dVar 1) (dC (.int 1))))
  (dSeq (dSet 4 (dLst (dCons (dC (.str "lets")) (dCons (dC (.str "ifs")) (dCons (dC (.str "nums")) (dCons (dC (.str "ye")) (dCons (dC (.str "nop")) (dCons (dC (.str "gaps")) (dCons (dC (.str "fol")) (dCons (dC (.str "anyy")) (dCons (dC (.str "adds")) (dCons (dC (.str "lis")) (dCons (dC (.str "te")) (dCons (dC (.str "funn")) dNil))))))))))))))
  (dFz 4 (dRet (dCall sp_w_pick (dCons (dVarM 0) (dCons (dVarM 4) dNil))))))
  dNext)
  (dSeq (dSet 2 (dOp fAdd (dC (.int 1)) (dCall sp_w_next (dCons (dVarM 0) (dCons (dC (.int 6)) dNil)))))
  (dSeq (dSet 3 (dM1 fJoin (dC (.str "")) (dLc (dRng1 (dCons (dVarM 2) dNil)) (gN 5) dYes (dCall sp_w_pick (dCons (dVarM 0) (dCons (dC (.str "abcdefghijklmnopqrstuvwxyz")) dNil))) [5])))
  (dRet (dOp fIx (dLst (dCons (dC (.str "q")) (dCons (dVarM 3) dNil))) (dUn fInt (dOp (fIn true) (dVar 3) (dCall sp_w_kept dNil))))))))))
/-! number -/
abbrev N_w_number : List Str := ["_law_draw_here", "_law_far", "_law_some"]
def d_w_number : DS :=
  (dSeq (dSet 1 (dCall sp_w_next (dCons (dVarM 0) (dCons (dOp fPow (dC (.int 10)) (dC (.int 9))) dNil))))
  (dSeq (dSet 2 (dLst (dCons (dOp fMod (dVar 1) (dC (.int 3))) (dCons (dOp fMod (dVar 1) (dC (.int 1000))) (dCons (dOp fAdd (dOp fPow (dC (.int 10)) (dC (.int 59))) (dVar 1)) (dCons (dOp fMul (dC (.int 10)) (dOp fMod (dVar 1) (dC (.int 12)))) dNil))))))
  (dFz 2 (dRet (dOp fMul (dCall sp_w_pick (dCons (dVarM 0) (dCons (dVarM 2) dNil))) (dOp fIx (dLst (dCons (dC (.int 1)) (dCons (dUn fNeg (dC (.int 1))) dNil))) (dCall sp_w_next (dCons (dVarM 0) (dCons (dC (.int 2)) dNil)))))))))
/-! leaf -/
abbrev N_w_leaf : List Str := ["_law_draw_here", "_law_way"]
def d_w_leaf : DS :=
  (dSeq (dSet 1 (dCall sp_w_next (dCons (dVarM 0) (dCons (dC (.int 6)) dNil))))
  (dSeq (dIfS (dB (dOp fLt (dVar 1) (dC (.int 2))))
  (dRet (dTup (dCons (dC (.str "number")) (dCons (dCall sp_w_number (dCons (dVarM 0) dNil)) dNil))))
  dNext)
  (dSeq (dIfS (dB (dOp fEq (dVar 1) (dC (.int 2))))
  (dRet (dTup (dCons (dC (.str "truth")) (dCons (dOp fEq (dCall sp_w_next (dCons (dVarM 0) (dCons (dC (.int 2)) dNil))) (dC (.int 0))) dNil))))
  dNext)
  (dSeq (dIfS (dB (dOp fEq (dVar 1) (dC (.int 5))))
  (dRet (dTup (dCons (dC (.str "none")) dNil)))
  dNext)
  (dRet (dTup (dCons (dOp fIx (dLst (dCons (dC (.str "name")) (dCons (dC (.str "gap")) dNil))) (dOp fSub (dVar 1) (dC (.int 3)))) (dCons (dCall sp_w_name (dCons (dVarM 0) dNil)) dNil))))))))
/-! term -/
abbrev N_w_term : List Str := ["_law_draw_here", "_law_deep", "_law_words_here", "_law_word", "_law_one", "_law_other", "_law_name_here"]
def d_w_term (n : Nat) : DS :=
  (dSeq (dSet 2 (dLst (dCons (dC (.str "let")) (dCons (dC (.str "fun")) (dCons (dC (.str "call")) (dCons (dC (.str "pair")) (dCons (dC (.str "first")) (dCons (dC (.str "second")) (dCons (dC (.str "add")) (dCons (dC (.str "fold")) (dCons (dC (.str "again")) (dCons (dC (.str "if")) (dCons (dC (.str "less")) dNil)))))))))))))
  (dSeq (dFz 2 (dSet 3 (dCall sp_w_pick (dCons (dVarM 0) (dCons (dVarM 2) dNil)))))
  (dSeq (dIfS (dOr (dB (dOp fEq (dVar 1) (dC (.int 0)))) (dB (dOp fEq (dCall sp_w_next (dCons (dVarM 0) (dCons (dC (.int 4)) dNil))) (dC (.int 0)))))
  (dRet (dCall sp_w_leaf (dCons (dVarM 0) dNil)))
  dNext)
  (dSeq (dIfS (dB (dOp fEq (dVar 3) (dC (.str "less"))))
  (dSet 3 (dCall sp_w_pick (dCons (dVarM 0) (dCons (dSh (dLst (dCons (dC (.str "plus")) (dCons (dC (.str "minus")) (dCons (dC (.str "less")) (dCons (dC (.str "same")) dNil)))))) dNil))))
  dNext)
  (dSeq (dIfS (dB (dOp (fIn false) (dVar 3) (dTup (dCons (dC (.str "first")) (dCons (dC (.str "second")) dNil)))))
  (dRet (dTup (dCons (dVarM 3) (dCons (dCall (sp_w_term n) (dCons (dVarM 0) (dCons (dOp fSub (dVar 1) (dC (.int 1))) dNil))) dNil))))
  dNext)
  (dSeq (dIfS (dB (dOp fEq (dVar 3) (dC (.str "let"))))
  (dSeq (dSet 6 (dCall sp_w_name (dCons (dVarM 0) dNil)))
  (dSeq (dSet 4 (dCall (sp_w_term n) (dCons (dVarM 0) (dCons (dOp fSub (dVar 1) (dC (.int 1))) dNil))))
  (dRet (dTup (dCons (dVarM 3) (dCons (dVarM 6) (dCons (dVarM 4) (dCons (dCall (sp_w_term n) (dCons (dVarM 0) (dCons (dOp fSub (dVar 1) (dC (.int 1))) dNil))) dNil))))))))
  dNext)
  (dSeq (dIfS (dB (dOp fEq (dVar 3) (dC (.str "fun"))))
  (dRet (dTup (dCons (dVarM 3) (dCons (dCall sp_w_name (dCons (dVarM 0) dNil)) (dCons (dCall (sp_w_term n) (dCons (dVarM 0) (dCons (dOp fSub (dVar 1) (dC (.int 1))) dNil))) dNil)))))
  dNext)
  (dSeq (dSet 4 (dCall (sp_w_term n) (dCons (dVarM 0) (dCons (dOp fSub (dVar 1) (dC (.int 1))) dNil))))
  (dSeq (dSet 5 (dCall (sp_w_term n) (dCons (dVarM 0) (dCons (dOp fSub (dVar 1) (dC (.int 1))) dNil))))
  (dSeq (dIfS (dB (dOp fEq (dVar 3) (dC (.str "fold"))))
  (dSeq (dSet 6 (dCall sp_w_name (dCons (dVarM 0) dNil)))
  (dRet (dTup (dCons (dVarM 3) (dCons (dVarM 4) (dCons (dVarM 5) (dCons (dVarM 6) (dCons (dOp fIx (dLst (dCons (dC (.str "z")) (dCons (dC (.str "zz")) dNil))) (dUn fInt (dOp fEq (dVar 6) (dC (.str "z"))))) (dCons (dCall (sp_w_term n) (dCons (dVarM 0) (dCons (dOp fSub (dVar 1) (dC (.int 1))) dNil))) dNil)))))))))
  dNext)
  (dSeq (dIfS (dB (dOp fEq (dVar 3) (dC (.str "again"))))
  (dRet (dTup (dCons (dVarM 3) (dCons (dVarM 4) (dCons (dVarM 5) (dCons (dCall sp_w_name (dCons (dVarM 0) dNil)) (dCons (dCall (sp_w_term n) (dCons (dVarM 0) (dCons (dOp fSub (dVar 1) (dC (.int 1))) dNil))) dNil)))))))
  dNext)
  (dSeq (dIfS (dB (dOp fEq (dVar 3) (dC (.str "if"))))
  (dRet (dTup (dCons (dVarM 3) (dCons (dVarM 4) (dCons (dVarM 5) (dCons (dCall (sp_w_term n) (dCons (dVarM 0) (dCons (dOp fSub (dVar 1) (dC (.int 1))) dNil))) dNil))))))
  dNext)
  (dRet (dTup (dCons (dVarM 3) (dCons (dVarM 4) (dCons (dVarM 5) dNil)))))))))))))))))
/-! size -/
abbrev N_w_size : List Str := ["_law_term_here", "_law_many", "_law_deep", "_law_thing", "_law_size_here"]
def d_w_size (n : Nat) : DS :=
  (dSeq (dSet 1 (dC (.int 1)))
  (dSeq (dSet 2 (dC (.int 0)))
  (dSeq (dFor (dIt (dSl (dVar 0) (dPart (dC (.int 1))) dNo)) (gN 3)
  (dIfS (dB (dUn (fIsi .tuple) (dVar 3)))
  (dSeq (dSet 4 (dCall (sp_w_size n) (dCons (dVarM 3) dNil)))
  (dSeq (dSet 1 (dOp fAdd (dVar 1) (dOp fIx (dVar 4) (dC (.int 0)))))
  (dSet 2 (dOp fMax (dVar 2) (dOp fIx (dVar 4) (dC (.int 1)))))))
  dNext))
  (dRet (dTup (dCons (dVarM 1) (dCons (dOp fAdd (dVar 2) (dC (.int 1))) dNil)))))))
/-! words -/
abbrev N_w_words : List Str := ["_law_term_here", "_law_words_here", "_law_thing"]
def d_w_words (n : Nat) : DS :=
  (dSeq (dIfS (dB (dOp fEq (dOp fIx (dVar 0) (dC (.int 0))) (dC (.str "number"))))
  (dRet (dLst (dCons (dUn fStr (dOp fIx (dVar 0) (dC (.int 1)))) dNil)))
  dNext)
  (dSeq (dIfS (dB (dOp fEq (dOp fIx (dVar 0) (dC (.int 0))) (dC (.str "truth"))))
  (dRet (dLst (dCons (dOp fIx (dLst (dCons (dC (.str "no")) (dCons (dC (.str "yes")) dNil))) (dUn fInt (dOp fIx (dVar 0) (dC (.int 1))))) dNil)))
  dNext)
  (dSeq (dIfS (dB (dOp fEq (dOp fIx (dVar 0) (dC (.int 0))) (dC (.str "name"))))
  (dRet (dLst (dCons (dOp fIx (dVar 0) (dC (.int 1))) dNil)))
  dNext)
  (dSeq (dIfS (dB (dOp fEq (dOp fIx (dVar 0) (dC (.int 0))) (dC (.str "gap"))))
  (dRet (dLst (dCons (dOp fAdd (dC (.str "?")) (dOp fIx (dVar 0) (dC (.int 1)))) dNil)))
  dNext)
  (dSeq (dSet 1 (dLst (dCons (dOp fIx (dVar 0) (dC (.int 0))) dNil)))
  (dSeq (dFor (dIt (dSl (dVar 0) (dPart (dC (.int 1))) dNo)) (gN 2)
  (dIfS (dB (dUn (fIsi .tuple) (dVar 2)))
  (dSet 1 (dOp fAdd (dVar 1) (dCall (sp_w_words n) (dCons (dVarM 2) dNil))))
  (dAppend 1 (dVarM 2))))
  (dRetV 1)))))))
/-! fit -/
abbrev N_w_fit : List Str := ["_law_draw_here", "_law_deep", "_law_term_here", "_law_one"]
def d_w_fit : DS :=
  (dSeq (dSet 2 (dCall (sp_w_term 7) (dCons (dVarM 0) (dCons (dVarM 1) dNil))))
  (dSeq (dWhile (dOr (dB (dOp fGt (dOp fIx (dCall (sp_w_size 7) (dCons (dVarM 2) dNil)) (dC (.int 0))) (dC (.int 200)))) (dB (dOp fGt (dUn fLen (dM1 fJoin (dC (.str " ")) (dCall (sp_w_words 41) (dCons (dVarM 2) dNil)))) (dC (.int 3500)))))
  (dSet 2 (dOp fIx (dLc (dIt (dSl (dVar 2) (dPart (dC (.int 1))) dNo)) (gN 3) (dB (dUn (fIsi .tuple) (dVar 3))) (dVarM 3) [3]) (dC (.int 0)))))
  (dRetV 2)))
/-! just -/
abbrev N_w_just : List Str := ["_law_draw_here", "_law_many", "_law_half", "_law_word"]
def d_w_just (n : Nat) : DS :=
  (dSeq (dIfS (dB (dOp fEq (dVar 1) (dC (.int 1))))
  (dRet (dCall sp_w_pick (dCons (dVarM 0) (dCons (dSh (dLst (dCons (dTup (dCons (dC (.str "number")) (dCons (dC (.int 7)) dNil))) (dCons (dTup (dCons (dC (.str "truth")) (dCons (dC (.bl true)) dNil))) (dCons (dTup (dCons (dC (.str "name")) (dCons (dC (.str "x")) dNil))) (dCons (dTup (dCons (dC (.str "gap")) (dCons (dC (.str "xs")) dNil))) (dCons (dTup (dCons (dC (.str "none")) dNil)) dNil))))))) dNil))))
  dNext)
  (dSeq (dIfS (dB (dOp fEq (dVar 1) (dC (.int 2))))
  (dRet (dTup (dCons (dCall sp_w_pick (dCons (dVarM 0) (dCons (dSh (dLst (dCons (dC (.str "first")) (dCons (dC (.str "second")) dNil)))) dNil))) (dCons (dTup (dCons (dC (.str "number")) (dCons (dUn fNeg (dC (.int 12))) dNil))) dNil))))
  dNext)
  (dSeq (dSet 2 (dOp fDiv (dOp fSub (dVar 1) (dC (.int 1))) (dC (.int 2))))
  (dSeq (dSet 3 (dCall sp_w_pick (dCons (dVarM 0) (dCons (dSh (dLst (dCons (dC (.str "pair")) (dCons (dC (.str "call")) (dCons (dC (.str "add")) (dCons (dC (.str "plus")) (dCons (dC (.str "minus")) (dCons (dC (.str "less")) (dCons (dC (.str "same")) dNil))))))))) dNil))))
  (dRet (dTup (dCons (dVarM 3) (dCons (dCall (sp_w_just n) (dCons (dVarM 0) (dCons (dVarM 2) dNil))) (dCons (dCall (sp_w_just n) (dCons (dVarM 0) (dCons (dOp fSub (dOp fSub (dVar 1) (dC (.int 1))) (dVar 2)) dNil))) dNil)))))))))
/-! chain -/
abbrev N_w_chain : List Str := ["_law_draw_here", "_law_deep", "_law_term_here", "_law_k", "_law_word"]
def d_w_chain : DS :=
  (dSeq (dSet 2 (dCall sp_w_leaf (dCons (dVarM 0) dNil)))
  (dSeq (dFor (dRng1 (dCons (dOp fSub (dVar 1) (dC (.int 1))) dNil)) (gN 3)
  (dSeq (dSet 4 (dCall sp_w_pick (dCons (dVarM 0) (dCons (dSh (dLst (dCons (dC (.str "first")) (dCons (dC (.str "second")) (dCons (dC (.str "fun")) dNil))))) dNil))))
  (dSet 2 (dOp fIx (dLst (dCons (dTup (dCons (dVarM 4) (dCons (dVarM 2) dNil))) (dCons (dTup (dCons (dVarM 4) (dCons (dC (.str "x")) (dCons (dVarM 2) dNil)))) dNil))) (dUn fInt (dOp fEq (dVar 4) (dC (.str "fun"))))))))
  (dRetV 2)))
/-! law -/
abbrev N_law : List Str := ["_law_script", "_law_told", "_law_k", "_law_draw_here", "_law_terms", "_law_term_here", "_law_due", "_law_found"]
def d_law : DS :=
  (dSeq (dSet 1 (dLst dNil))
  (dSeq (dFor (dRng1 (dCons (dOp fMax (dC (.int 1)) (dOp fMin (dC (.int 40)) (dUn fLen (dVar 0)))) dNil)) (gN 2)
  (dSeq (dSet 3 (dCall sp_w_draw (dCons (dVarM 0) (dCons (dVarM 2) dNil))))
  (dSeq (dSet 4 (dLst (dCons (dCall sp_w_fit (dCons (dVarM 3) (dCons (dC (.int 5)) dNil))) dNil)))
  (dSeq (dIfS (dB (dOp fEq (dCall sp_w_next (dCons (dVarM 3) (dCons (dC (.int 4)) dNil))) (dC (.int 0))))
  (dSet 4 (dOp fAdd (dVar 4) (dLst (dCons (dCall (sp_w_just 10) (dCons (dVarM 3) (dCons (dC (.int 200)) dNil))) (dCons (dCall sp_w_chain (dCons (dVarM 3) (dCons (dC (.int 40)) dNil))) dNil)))))
  dNext)
  (dFz 4 (dFor (dIt (dVarM 4)) (gN 5)
  (dSeq (dSet 6 (dM1 fJoin (dC (.str " ")) (dCall (sp_w_words 41) (dCons (dVarM 5) dNil))))
  (dSeq (dSet 7 (dCall sp_term_text (dCons (dVarM 5) dNil)))
  (dSeq (dIfS (dOr (dNot (dB (dUn (fIsi .str) (dVar 7)))) (dB (dOp fNe (dVar 7) (dVar 6))))
  (dRet (dC (.bl false)))
  dNext)
  (dAppend 1 (dTup (dCons (dVarM 5) (dCons (dVarM 6) dNil)))))))))))))
  (dFz 1 (dRet (dOp fEqE (dLc (dIt (dVarM 1)) (gT2 5 6) (dB (dOp fNe (dCall sp_term_text (dCons (dVarM 5) dNil)) (dVar 6))) (dVarM 5) [5, 6]) (dLst dNil))))))
theorem isi_tup {t : D} (h : (!t.isi .tuple) = false) : ∃ l, t = .tup l := by
  cases t <;> first | exact ⟨_, rfl⟩ | cases h
theorem isi_str {t : D} (h : (!t.isi .str) = false) : ∃ l, t = .str l := by
  cases t <;> first | exact ⟨_, rfl⟩ | cases h
theorem at0 {α : Type} (a : α) (l : List α) : atI (a :: l) 0 = some a := by
  unfold atI ixN
  rw [List.length_cons]
  simp
theorem at_s {α : Type} (a : α) (l : List α) (n : Nat) : atI (a :: l) ((n + 1 : Nat) : Int) = atI l (n : Int) := by
  have h1 : ∀ (m : List α) (k : Nat), atI m (k : Int) = m[k]? := fun m k => by
    cases e : m[k]? with
    | some x => exact atI_nat e
    | none =>
      unfold atI ixN
      have hl := List.getElem?_eq_none_iff.mp e
      rw [if_pos (by omega)]
      by_cases z : (k : Int) < m.length
      · omega
      · rw [if_neg (by omega)]
        rfl
  rw [h1, h1]
  rfl
theorem drop_get {α : Type} {l : List α} {i : Nat} {x : α} (h : l[i]? = some x) : l.drop i = x :: l.drop (i + 1) := by
  obtain ⟨hl, e⟩ := List.getElem?_eq_some_iff.mp h
  rw [← e]
  exact List.drop_eq_getElem_cons hl
theorem last_of {α : Type} (l : List α) (a : α) : atI (l ++ [a]) (-1) = some a := by
  have h : atI (l ++ [a]) (-1) = (l ++ [a])[l.length]? := by
    unfold atI ixN
    rw [List.length_append, List.length_singleton]
    rw [if_neg (by omega), if_pos (by omega)]
    show (l ++ [a])[(-1 + ((l.length + 1 : Nat) : Int)).toNat]? = _
    congr 1
    omega
  rw [h]
  simp
theorem rng_get {lo : Int} {n i : Nat} {x : D} (h : (rngD lo n)[i]? = some x) : x = .int (lo + i) ∧ i < n := by
  have hl : i < n := by
    have := (List.getElem?_eq_some_iff.mp h).1
    rw [rng_length] at this
    exact this
  unfold rngD at h
  rw [List.getElem?_map, List.getElem?_range hl] at h
  cases h
  exact ⟨rfl, hl⟩
theorem okT_cut {m : Nat} {l : List D} {lo hi : Option Int} (h : okT m (.tup l) = true) : ∀ d ∈ cutD l lo hi, okT m d = true := fun d hd => (okT_tup.mp h).1 d (mem_cut hd)
theorem len_is_name : ∀ ds xc R, sp_is_name ds xc R → ds.length = 1 := by
  rintro ds xc R ⟨d, rfl, _⟩
  rfl
theorem kept_D : g_KEPT = .tup (KEPTL.map D.str) := rfl
theorem let_D : g_LETTERS = .str LET := rfl
theorem most_D : g_MOST_LETTERS = .int 6 := rfl
/-- a name's three looks -/
theorem pure_is_name : ∀ ds xc R, sp_is_name ds xc R → d_is_name X0 { nx := fun _ => R (.dat .non), rt := R } (args N_is_name ds) := by
  rintro ds xc R ⟨d, rfl, ok, q⟩
  show d_is_name X0 _ [some (.dat d), none]
  unfold d_is_name
  rw [kept_D, most_D, let_D]
  cases d with
  | str s =>
    obtain ⟨ok, hok⟩ := (show s.length ≤ 1000 ∧ okS s from ok)
    have q : R (.dat (.bl (nameS s))) := q
    refine seq_k fun K hK => ?_; walk_at "dl"
    refine ⟨rfl, small_sz (by omega), ?_⟩
    refine ifB_dec (fun h1 => ?_) (fun h1 => ?_)
    · by_cases h2 : (s.length : Int) ≤ 6
      · rw [decide_eq_true h2]
        walk_at "dl"
        refine ⟨⟨rfl, flat_strs _⟩, ?_⟩
        rw [inD_strs]
        by_cases h3 : s ∈ KEPTL
        · rw [nameS_no2 h3] at q
          exact ifB_T (decide_eq_true h3) q
        · refine ifB_F (decide_eq_false h3) ?_
          rw [nameS_yes ⟨by omega, by omega⟩ h3] at q
          subst hK
          walk_at "dl"
          refine lc_map (fun x => .bl (decide (signOf x ∈ LET.cps.toList))) (by
            rw [List.length_map, Array.length_toList]
            show s.length ≤ 100000
            omega) (fun x hx P hP => ?_) ?_
          · obtain ⟨c, hc, rfl⟩ := List.mem_map.mp hx
            walk_at "dl"
            exact ⟨c, rfl, hP⟩
          · walk_at "dl"
            refine onO_of (chars_bl (fun c => decide (c ∈ LET.cps.toList)) _ (fun c => rfl) _) ?_
            rw [List.all_map]
            exact q
      · rw [decide_eq_false h2]
        walk_at "dl"
        rw [nameS_no1 (by omega)] at q
        exact q
    · rw [nameS_no1 (by omega)] at q
      exact q
  | _ => walk_at "dl"; exact ⟨ok, q⟩
theorem len_is_single : ∀ ds xc R, sp_is_single ds xc R → ds.length = 2 := by
  rintro ds xc R ⟨c, d, rfl, _⟩
  rfl
theorem ask_of {k : Nat} {d : D} (h : okT k d = true) : askOk d := by
  cases d <;> first | exact okT_str.mp h | exact okT_plain h
theorem eqd_x (c : Nat) : eqd (.str ⟨#[c]⟩) (.str "x") = decide (c = 120) := eqd_one c 120
theorem eqd_t (c : Nat) : eqd (.str ⟨#[c]⟩) (.str "t") = decide (c = 116) := eqd_one c 116
theorem eqd_b (c : Nat) : eqd (.str ⟨#[c]⟩) (.str "b") = decide (c = 98) := eqd_one c 98
theorem eqOk_x : eqOk (.str "x") = true := eqOk_str (by unfold okS; decide)
theorem eqOk_t : eqOk (.str "t") = true := eqOk_str (by unfold okS; decide)
theorem eqOk_b : eqOk (.str "b") = true := eqOk_str (by unfold okS; decide)
theorem pure_is_single : ∀ ds xc R, sp_is_single ds xc R → d_is_single X0 { nx := fun _ => R (.dat .non), rt := R } (args N_is_single ds) := by
  rintro ds xc R ⟨c, d, rfl, hc, hd, q⟩
  show d_is_single X0 _ [some (.dat (.str ⟨#[c]⟩)), some (.dat d)]
  unfold d_is_single
  refine seq_k fun K hK => ?_; walk_at "dl"
  refine ⟨⟨eqOk_str (okS_one hc), eqOk_x⟩, ?_⟩
  rw [eqd_x]
  refine ifB_dec (fun h => ?_) (fun h => ?_)
  · refine ⟨d, rfl, ask_of hd, ?_⟩
    unfold single at q
    rw [if_pos h] at q
    exact q
  · unfold single at q
    rw [if_neg h] at q
    subst hK
    walk_at "dl"
    refine ⟨okT_plain hd, ifB_of (fun h2 => ?_) (fun h2 => ?_)⟩
    · rw [h2] at q
      refine ⟨okT_plain hd, ⟨eqOk_str (okS_one hc), eqOk_b⟩, ⟨rfl, rfl⟩, ?_⟩
      rw [eqd_b, eqd_bl]
      exact q
    · rw [h2] at q
      exact q
theorem len_left_behind (n : Nat) : ∀ ds xc R, sp_left_behind n ds xc R → ds.length = 3 := by
  rintro ds xc R ⟨d, l, k, rfl, _⟩
  rfl
theorem no_left_behind : ∀ ds xc R, ¬ sp_left_behind 0 ds xc R := by
  rintro ds xc R ⟨d, l, k, rfl, h, _⟩
  omega
theorem lefts_low {o : Option Nat} {l : Int} (h : l < 1) (hp : ∀ k, o = some k → 0 < k) : lefts o l = -1 := by
  unfold lefts
  cases o with
  | none => rfl
  | some k =>
    have := hp k rfl
    show (if (k : Int) ≤ l then _ else _) = _
    rw [if_neg (by omega)]
theorem size_pos {n : Nat} {d : D} {k : Nat} (h : size n d = some k) : 0 < k := by
  unfold size at h
  split at h
  · split at h
    · split at h
      · split at h
        · cases h
        · obtain ⟨j, _, e⟩ := Option.map_eq_some_iff.mp h
          omega
      · cases h
    · cases h
  · cases h
theorem szs_cons (f : D → Option Nat) (c : Nat) (cs : List Nat) (p : D) (ps : List D) : szs f (c :: cs) (p :: ps) = match (if c = 116 then f p else if single c p then some 0 else none), szs f cs ps with
    | some a, some b => some (a + b)
    | _, _ => none := rfl
theorem lefts_t (f : D → Option Nat) (cs : List Nat) (p : D) (ps : List D) {m : Int} (h : 0 ≤ m) : lefts (szs f (116 :: cs) (p :: ps)) m = if lefts (f p) m < 0 then -1 else lefts (szs f cs ps) (lefts (f p) m) := by
  rw [szs_cons, if_pos rfl]
  cases e : f p with
  | none => rfl
  | some a =>
    by_cases ha : (a : Int) ≤ m
    · have e1 : lefts (some a) m = m - a := by
        show (if (a : Int) ≤ m then _ else _) = _
        rw [if_pos ha]
      rw [e1, if_neg (by omega)]
      cases szs f cs ps with
      | none => rfl
      | some b =>
        show (if ((a + b : Nat) : Int) ≤ m then m - ((a + b : Nat) : Int) else -1) = if (b : Int) ≤ m - a then m - a - b else -1
        by_cases hb : (b : Int) ≤ m - a
        · rw [if_pos hb, if_pos (by omega)]
          omega
        · rw [if_neg hb, if_neg (by omega)]
    · have e1 : lefts (some a) m = -1 := by
        show (if (a : Int) ≤ m then _ else _) = _
        rw [if_neg ha]
      rw [e1, if_pos (by decide)]
      cases szs f cs ps with
      | none => rfl
      | some b =>
        show (if ((a + b : Nat) : Int) ≤ m then m - ((a + b : Nat) : Int) else -1) = -1
        rw [if_neg (by omega)]
theorem lefts_s (f : D → Option Nat) {c : Nat} (cs : List Nat) (p : D) (ps : List D) (m : Int) (h : ¬ c = 116) : lefts (szs f (c :: cs) (p :: ps)) m = if single c p then lefts (szs f cs ps) m else -1 := by
  rw [szs_cons, if_neg h]
  cases single c p with
  | false => rfl
  | true =>
    show lefts (match some 0, szs f cs ps with
      | some a, some b => some (a + b)
      | _, _ => none) m = lefts (szs f cs ps) m
    cases szs f cs ps with
    | none => rfl
    | some b =>
      show lefts (some (0 + b)) m = _
      rw [Nat.zero_add]
theorem lefts_neg {o : Option Nat} {m : Int} (h : 0 ≤ m) (e : lefts o m = -1) (al : Bool) : lefts (if al then none else o.map (· + 1)) (m + 1) = -1 := by
  cases al with
  | true => rfl
  | false =>
    cases o with
    | none => rfl
    | some k =>
      have e : (if (k : Int) ≤ m then m - k else -1) = -1 := e
      show (if ((k + 1 : Nat) : Int) ≤ m + 1 then _ else _) = _
      by_cases hk : (k : Int) ≤ m
      · rw [if_pos hk] at e
        omega
      · rw [if_neg (by omega)]
theorem lefts_some {o : Option Nat} {m x : Int} (h : 0 ≤ x) (e : lefts o m = x) : ∃ k : Nat, o = some k ∧ x = m - k ∧ (k : Int) ≤ m := by
  cases o with
  | none =>
    have e : (-1 : Int) = x := e
    omega
  | some k =>
    have e : (if (k : Int) ≤ m then m - k else -1) = x := e
    by_cases hk : (k : Int) ≤ m
    · rw [if_pos hk] at e
      exact ⟨k, rfl, e.symm, hk⟩
    · rw [if_neg hk] at e
      omega
/-- a term's signs and parts, one by one -/
theorem pairs_get {cs : List Nat} {ps : List D} {i : Nat} {x : D} (h : (((cs.map fun c => D.str ⟨#[c]⟩).zip ps).map pair2)[i]? = some x) : ∃ c p, cs[i]? = some c ∧ ps[i]? = some p ∧ x = .tup [.str ⟨#[c]⟩, p] := by
  rw [List.getElem?_map] at h
  obtain ⟨pr, hp, rfl⟩ := Option.map_eq_some_iff.mp h
  obtain ⟨h1, h2⟩ := zip_get _ _ _ _ hp
  rw [List.getElem?_map] at h1
  obtain ⟨c, hc, e⟩ := Option.map_eq_some_iff.mp h1
  exact ⟨c, pr.2, hc, h2, by rw [e]; rfl⟩
theorem name_str {d : D} (h : nameB d = true) : ∃ s, d = .str s ∧ nameS s = true := by
  cases d <;> first | exact ⟨_, rfl, h⟩ | cases h
theorem szs_len {f : D → Option Nat} : ∀ {cs : List Nat} {ps : List D} {k : Nat}, szs f cs ps = some k → cs.length = ps.length
  | [], [], _, _ => rfl
  | [], _ :: _, _, h => nomatch h
  | _ :: _, [], _, h => nomatch h
  | c :: cs, p :: ps, k, h => by
    rw [szs_cons] at h
    cases e : szs f cs ps with
    | none =>
      rw [e] at h
      cases hq : (if c = 116 then f p else if single c p then some 0 else none) <;> rw [hq] at h <;> cases h
    | some b => exact congrArg (· + 1) (szs_len e)
theorem ofnat_pos (n : Nat) : ¬ ((n + 1 : Nat) : Int) = 0 := by omega
/-- fold's names, where it is one -/
theorem fold_parts {f : D → Option Nat} {ps : List D} {k : Nat} (h : szs f ("ttxxt" : Str).cps.toList ps = some k) : ∃ a b s2 s3 e, ps = [a, b, .str s2, .str s3, e] ∧ nameS s2 = true ∧ nameS s3 = true := by
  have e : ("ttxxt" : Str).cps.toList = [116, 116, 120, 120, 116] := rfl
  rw [e] at h
  have hlen := szs_len h
  match ps, hlen, h with
  | [a, b, c, d, e], _, h =>
    have hc : single 120 c = true := by
      cases hs : single 120 c with
      | true => rfl
      | false =>
        rw [szs_cons, szs_cons, szs_cons, if_neg (by decide : ¬ (120 : Nat) = 116), hs] at h
        cases f a <;> cases f b <;> simp at h
    have hd : single 120 d = true := by
      cases hs : single 120 d with
      | true => rfl
      | false =>
        rw [szs_cons, szs_cons, szs_cons, szs_cons, if_neg (by decide : ¬ (120 : Nat) = 116), if_neg (by decide : ¬ (120 : Nat) = 116), hs] at h
        cases f a <;> cases f b <;> cases single 120 c <;> simp at h
    obtain ⟨s2, rfl, n2⟩ := name_str (show nameB c = true from hc)
    obtain ⟨s3, rfl, n3⟩ := name_str (show nameB d = true from hd)
    exact ⟨a, b, s2, s3, e, rfl, n2, n3⟩
theorem tab_D : tab_SIGNS = SGT.map fun p => (p.1, D.str p.2) := rfl
theorem pure_left_behind (n : Nat) : ∀ ds xc R, sp_left_behind (n + 1) ds xc R → d_left_behind n X0 { nx := fun _ => R (.dat .non), rt := R } (args N_left_behind ds) := by
  rintro ds xc R ⟨d, l, k, rfl, hk, hd, q⟩
  show d_left_behind n X0 _ [some (.dat d), some (.dat (.int l)), some (.dat (.int k)), none, none, none]
  unfold d_left_behind
  refine seq_k fun K hK => ?_; walk_at "dl"
  refine ifB_dec (fun h => ?_) (fun hl => ?_)
  · rw [lefts_low h fun _ e => size_pos e] at q
    exact q
  refine ifB_dec (fun h => ?_) (fun hk0 => ?_)
  · have e : k = 0 := by omega
    subst e
    rw [size_zero] at q
    exact q
  refine ⟨okT_plain hd, ifB_of (fun h => ?_) (fun hty => ?_)⟩
  · rw [size_unheaded (by cases d <;> first | rfl | cases h)] at q
    exact q
  obtain ⟨ls, rfl⟩ := isi_tup hty
  walk_at "dl"
  refine ⟨Nat.zero_le _, ifB_of (fun h => ?_) (fun hne => ?_)⟩
  · rw [size_unheaded (by cases ls <;> first | rfl | cases h)] at q
    exact q
  cases ls with
  | nil => cases hne
  | cons a ps =>
    refine onO_of (at0 a ps) ?_
    have hda := okT_tup.mp hd
    refine ⟨okT_plain (hda.1 a (List.mem_cons_self ..)), ifB_of (fun h => ?_) (fun hty => ?_)⟩
    · rw [size_unheaded (by cases a <;> first | rfl | cases h)] at q
      exact q
    obtain ⟨w, rfl⟩ := isi_str hty
    obtain ⟨k, rfl⟩ : ∃ k', k = k' + 1 := ⟨k - 1, by omega⟩
    rw [size_succ] at q
    subst hK
    refine seq_k fun K hK => ?_; walk_at "dl"
    refine onO_of (at0 _ ps) ?_
    walk_at "dl"
    rw [tab_D, tabV_map D.str w SGT]
    show getP ((sgn w).map D.str) _ _
    cases es : sgn w with
    | none =>
      rw [es] at q
      show K _
      subst hK
      walk_at "dl"
      exact q
    | some s =>
      rw [es] at q
      have hs := sgn_short es
      show K [_, _, _, some (.dat (.str s)), none, none]
      subst hK
      refine seq_k fun K hK => ?_; walk_at "dl"
      refine ⟨small_sz (by omega), ⟨rfl, rfl⟩, ?_⟩
      rw [eqd_int]
      have q : R (.dat (.int (lefts (if ps.length = s.length then if alike w ps = true then none else Option.map (fun x => x + 1) (szs (size k) s.cps.toList ps) else none) l))) := q
      by_cases hlen : ps.length = s.length
      · rw [if_pos hlen] at q
        rw [decide_eq_true (by rw [List.length_cons]; omega)]
        refine ifB_F rfl ?_
        subst hK
        refine seq_k fun K hK => ?_; walk_at "dl"
        subst hK
        refine seq_k fun K hK => ?_; walk_at "dl"
        rw [cut_tail]
        have cl : s.cps.toList.length = s.length := Array.length_toList
        refine ⟨fun i r => ∃ (m : Int) (x4 x5 : Option Val), r = [some (.dat (.tup (.str w :: ps))), some (.dat (.int m)), some (.dat (.int (k + 1 : Nat))), some (.dat (.str s)), x4, x5] ∧ 0 ≤ m ∧ lefts (szs (size k) (s.cps.toList.drop i) (ps.drop i)) m = lefts (szs (size k) s.cps.toList ps) (l - 1), ⟨l - 1, none, none, rfl, by omega, rfl⟩, ?_, ?_⟩
        · rintro i x r hx ⟨m, x4, x5, rfl, hm, hl2⟩
          obtain ⟨c, p, hc, hp, rfl⟩ := pairs_get hx
          rw [drop_get hc, drop_get hp] at hl2
          have hco : c < 0x110000 := hs.2 c (List.mem_of_getElem? hc)
          have hop := hda.1 p (List.mem_cons_of_mem _ (List.mem_of_getElem? hp))
          refine gT2_mk ?_
          refine seq_k fun K hK => ?_; walk_at "dl"
          refine ⟨⟨eqOk_str (okS_one hco), eqOk_t⟩, ?_⟩
          rw [eqd_t]
          have bad : lefts (szs (size k) s.cps.toList ps) (l - 1) = -1 → R (.dat (.int (-1))) := fun e => by
            have e2 := lefts_neg (o := szs (size k) s.cps.toList ps) (m := l - 1) (by omega) e (alike w ps)
            rw [show l - 1 + 1 = l by omega] at e2
            rw [e2] at q
            exact q
          refine ifB_dec (fun hct => ?_) (fun hct => ?_)
          · subst hct
            rw [lefts_t _ _ _ _ hm] at hl2
            refine ⟨p, m, k, by rw [show ((k + 1 : Nat) : Int) - 1 = (k : Int) by omega], by omega, hop, ?_⟩
            subst hK
            walk_at "dl"
            refine ifB_dec (fun hneg => ?_) (fun hneg => ?_)
            · rw [if_pos hneg] at hl2
              exact bad hl2.symm
            · rw [if_neg hneg] at hl2
              exact ⟨_, _, _, rfl, by omega, hl2⟩
          · rw [lefts_s _ _ _ _ _ hct] at hl2
            refine ⟨c, p, rfl, hco, hop, ?_⟩
            walk_at "dl"
            cases hsg : single c p with
            | true =>
              rw [hsg] at hl2
              refine ifB_F rfl ?_
              subst hK
              walk_at "dl"
              refine ifB_dec (fun z => by omega) (fun _ => ⟨_, _, _, rfl, hm, hl2⟩)
            | false =>
              rw [hsg] at hl2
              refine ifB_T rfl ?_
              subst hK
              walk_at "dl"
              exact ifB_T rfl (bad hl2.symm)
        · rintro r ⟨m, x4, x5, rfl, hm, hl2⟩
          have el : (((s.cps.toList.map fun c => D.str ⟨#[c]⟩).zip ps).map pair2).length = s.length := by
            rw [List.length_map, List.length_zip, List.length_map, cl, hlen, Nat.min_self]
          rw [el, List.drop_of_length_le (by omega), List.drop_of_length_le (by omega)] at hl2
          have hl2 : (if ((0 : Nat) : Int) ≤ m then m - ((0 : Nat) : Int) else -1) = lefts (szs (size k) s.cps.toList ps) (l - 1) := hl2
          rw [if_pos (by omega)] at hl2
          obtain ⟨k0, e0, e1, e2⟩ := lefts_some (by omega) hl2.symm
          rw [e0] at q
          dsimp only
          subst hK
          refine seq_k fun K hK => ?_; walk_at "dl"
          refine onO_of (at0 _ ps) ?_
          have hw := okT_str.mp (hda.1 _ (List.mem_cons_self ..))
          refine ⟨⟨eqOk_str hw.2, eqOk_str (by unfold okS; decide)⟩, ?_⟩
          rw [eqd_str]
          have good : alike w ps = false → K [some (.dat (.tup (.str w :: ps))), some (.dat (.int m)), some (.dat (.int (k + 1 : Nat))), some (.dat (.str s)), x4, x5] := fun ha => by
            rw [ha] at q
            have q : R (.dat (.int (if ((k0 + 1 : Nat) : Int) ≤ l then l - ((k0 + 1 : Nat) : Int) else -1))) := q
            rw [if_pos (by omega)] at q
            subst hK
            walk_at "dl"
            rw [show l - ((k0 + 1 : Nat) : Int) = m by omega] at q
            exact q
          refine ifB_dec (fun hf => ?_) (fun hf => good (by unfold alike; rw [decide_eq_false hf]; rfl))
          subst hf
          have e := sgn_fold es
          subst e
          obtain ⟨a, b, s2, s3, c, rfl, n2, n3⟩ := fold_parts e0
          refine onO_of (a := D.str s2) rfl (onO_of (a := D.str s3) rfl ⟨⟨eqOk_str (name_ok n2), eqOk_str (name_ok n3)⟩, ?_⟩)
          rw [eqd_str]
          have ea : alike "fold" [a, b, .str s2, .str s3, c] = decide (s2 = s3) := rfl
          rw [ea] at q good
          refine ifB_dec (fun h => ?_) (fun h => good (decide_eq_false h))
          rw [decide_eq_true h] at q
          exact q
      · rw [if_neg hlen] at q
        rw [decide_eq_false (by rw [List.length_cons]; omega)]
        exact ifB_T rfl q
theorem len_is_term : ∀ ds xc R, sp_is_term ds xc R → ds.length = 1 := by
  rintro ds xc R ⟨d, rfl, _⟩
  rfl
theorem pure_is_term : ∀ ds xc R, sp_is_term ds xc R → d_is_term X0 { nx := fun _ => R (.dat .non), rt := R } (args N_is_term ds) := by
  rintro ds xc R ⟨d, rfl, hd, q⟩
  show d_is_term X0 _ [some (.dat d)]
  unfold d_is_term
  rw [show g_MOST_PARTS = .int 200 from rfl, show g_MOST_DEEP = .int 40 from rfl]
  walk_at "dl"
  refine ⟨d, 200, 40, rfl, by decide, hd, ?_⟩
  walk_at "dl"
  exact q
local macro_rules | `(tactic| walk_at "szz") => `(tactic| repeat (refine And.intro (by first | exact trivial | exact safe_nil | exact sz rfl) ?_))
theorem len_w_mixed : ∀ ds xc R, sp_w_mixed ds xc R → ds.length = 2 := by
  rintro ds xc R ⟨c, k, rfl, _⟩
  rfl
theorem pure_w_mixed : ∀ ds xc R, sp_w_mixed ds xc R → d_w_mixed X0 { nx := fun _ => R (.dat .non), rt := R } (args N_w_mixed ds) := by
  rintro ds xc R ⟨c, k, rfl, q⟩
  show d_w_mixed X0 _ [some (.dat (.int c)), some (.dat (.int k)), none]
  unfold d_w_mixed
  walk_at "dl"
  refine ⟨by decide, .inl ⟨by decide, by decide⟩, .inr ⟨by decide, by decide⟩, by decide, ?_⟩
  have b1 := Int.emod_nonneg ((c % 2147483647 + 7919 * k + 11) * 48271) (show (2147483647 : Int) ≠ 0 by decide)
  have b2 := Int.emod_lt_of_pos ((c % 2147483647 + 7919 * k + 11) * 48271) (show (0 : Int) < 2147483647 by decide)
  generalize ((c % 2147483647 + 7919 * k + 11) * 48271) % 2147483647 = m at b1 b2
  exact ⟨.inl ⟨by omega, by omega⟩, .inl ⟨by decide, by decide⟩, by decide, q _ (Int.emod_nonneg _ (by decide)) (Int.emod_lt_of_pos _ (by decide))⟩
theorem len_w_draw : ∀ ds xc R, sp_w_draw ds xc R → ds.length = 2 := by
  rintro ds xc R ⟨ns, k, rfl, _⟩
  rfl
theorem pow18 : CPow 10 18 := ⟨by decide, by decide, by decide⟩
theorem pow9 : CPow 10 9 := ⟨by decide, by decide, by decide⟩
theorem pow59 : CPow 10 59 := ⟨by decide, by decide, by decide⟩
theorem pure_w_draw : ∀ ds xc R, sp_w_draw ds xc R → d_w_draw X0 { nx := fun _ => R (.dat .non), rt := R } (args N_w_draw ds) := by
  rintro ds xc R ⟨ns, k, rfl, h0, q⟩
  show d_w_draw X0 _ [some (.dat (.scr ns)), some (.dat (.int k)), none]
  unfold d_w_draw
  refine seq_k fun K hK => ?_; walk_at "dl"
  subst hK
  refine seq_k fun K hK => ?_; walk_at "dl"
  have go : ∀ c : Int, K [some (.dat (.scr ns)), some (.dat (.int k)), some (.dat (.int c))] := fun c => by
    subst hK
    walk_at "dl"
    refine ⟨pow18, _, _, rfl, fun r r0 r1 => ?_⟩
    walk_at "dl"
    refine ⟨by show 3 ≤ sizeLine; decide, ⟨_, _, _, rfl, ?_, r0, by omega⟩, q⟩
    split <;> omega
  refine ifB_dec (fun h => ?_) (fun _ => go 0)
  obtain ⟨n, hn, _⟩ := atI_get (l := ns) h0 h
  exact onO_of hn (go n)
theorem len_w_next : ∀ ds xc R, sp_w_next ds xc R → ds.length = 2 := by
  rintro ds xc R ⟨n, rfl, _⟩
  rfl
theorem pure_w_next : ∀ ds xc R, sp_w_next ds xc R → d_w_next X0 { nx := fun _ => R (.dat .non), rt := R } (args N_w_next ds) := by
  rintro ds xc R ⟨n, rfl, h0, h1, q⟩
  show d_w_next X0 _ [some (.dat .drawl), some (.dat (.int n)), none]
  unfold d_w_next
  refine seq_k fun K hK => ?_; walk_at "dl"
  intro a ha
  refine ifB_dec (fun _ => ?_) (fun _ => ?_)
  · intro b hb
    refine ⟨h0, fun c hc => ⟨divOk h0 h1, ⟨fun _ => Int.ediv_nonneg (hc.1 rfl) (by omega), (fun z => nomatch z)⟩, q _ (Int.emod_nonneg _ (by omega)) (Int.emod_lt_of_pos _ h0)⟩⟩
  · subst hK
    refine seq_k fun K hK => ?_; walk_at "dl"
    intro b hb
    refine ⟨⟨(fun z => nomatch z), (fun z => nomatch z)⟩, ?_⟩
    subst hK
    walk_at "dl"
    intro c hc d hd
    refine ⟨c, d, rfl, fun r r0 r1 => ?_⟩
    walk_at "dl"
    exact ⟨divOk (by decide) (by decide), h0, q _ (Int.emod_nonneg _ (by omega)) (Int.emod_lt_of_pos _ h0)⟩
theorem len_w_pick : ∀ ds xc R, sp_w_pick ds xc R → ds.length = 2 := by
  rintro ds xc R ⟨c, l, rfl, _⟩
  rfl
theorem pure_w_pick : ∀ ds xc R, sp_w_pick ds xc R → d_w_pick X0 { nx := fun _ => R (.dat .non), rt := R } (args N_w_pick ds) := by
  rintro ds xc R ⟨c, l, rfl, hc, h0, h1, q⟩
  show d_w_pick X0 _ [some (.dat .drawl), some (.dat c)]
  unfold d_w_pick
  rcases hc with rfl | rfl | ⟨z, rfl, hz, rfl⟩
  · walk_at "dl"
    refine ⟨_, rfl, by omega, by omega, fun r r0 r1 => ?_⟩
    walk_at "dl"
    obtain ⟨d, hd, hm⟩ := atI_get (l := l) r0 r1
    exact onO_of hd (q d hm)
  · walk_at "dl"
    refine ⟨_, rfl, by omega, by omega, fun r r0 r1 => ?_⟩
    walk_at "dl"
    obtain ⟨d, hd, hm⟩ := atI_get (l := l) r0 r1
    exact onO_of hd (q d hm)
  · walk_at "dl"
    rw [List.length_map, Array.length_toList] at h0 h1
    have e0 : z.length = z.cps.size := rfl
    refine ⟨small_sz (by omega), _, rfl, by omega, by omega, fun r r0 r1 => ?_⟩
    walk_at "dl"
    obtain ⟨d, hd, hm⟩ := atI_get (l := z.cps.toList) r0 (by rw [Array.length_toList]; omega)
    exact ⟨small_sz (by omega), onO_of hd (q _ (List.mem_map.mpr ⟨d, hm, rfl⟩))⟩
theorem len_w_kept : ∀ ds xc R, sp_w_kept ds xc R → ds.length = 0 := by
  rintro ds xc R ⟨rfl, _⟩
  rfl
theorem kept_split : (Txt.split ("number truth name gap let fun call pair first second none add fold again if plus" ++ " minus less same yes no num list any") " ") = KEPTL := by decide +kernel
theorem pure_w_kept : ∀ ds xc R, sp_w_kept ds xc R → d_w_kept X0 { nx := fun _ => R (.dat .non), rt := R } (args N_w_kept ds) := by
  rintro ds xc R ⟨rfl, q⟩
  show d_w_kept X0 _ [none]
  unfold d_w_kept
  walk_at "dl"
  refine ⟨small_sz (by decide), ⟨by decide, by decide⟩, ?_⟩
  rw [← kept_split] at q
  exact q
theorem len_w_name : ∀ ds xc R, sp_w_name ds xc R → ds.length = 1 := by
  rintro ds xc R ⟨rfl, _⟩
  rfl
def NEAR0 : List Str := ["x", "y", "xs", "a", "b", "g"]
def NEAR1 : List Str := ["lets", "ifs", "nums", "ye", "nop", "gaps", "fol", "anyy", "adds", "lis", "te", "funn"]
theorem near0 : NEAR0.all (fun s => nameS s) = true := by decide +kernel
theorem near1 : NEAR1.all (fun s => nameS s) = true := by decide +kernel
theorem pure_w_name : ∀ ds xc R, sp_w_name ds xc R → d_w_name X0 { nx := fun _ => R (.dat .non), rt := R } (args N_w_name ds) := by
  rintro ds xc R ⟨rfl, q⟩
  show d_w_name X0 _ [some (.dat .drawl), none, none, none, none, none]
  unfold d_w_name
  refine seq_k fun K hK => ?_; walk_at "dl"
  refine ⟨3, rfl, by decide, by decide, fun w w0 w1 => ?_⟩
  subst hK
  refine seq_k fun K hK => ?_; walk_at "dl"
  refine ⟨⟨rfl, rfl⟩, ?_⟩
  rw [eqd_int]
  refine ifB_dec (fun _ => ?_) (fun _ => ?_)
  · refine ⟨by show 6 ≤ sizeLine; decide, trivial, _, NEAR0.map D.str, rfl, .inl rfl, by decide, by decide, fun d hd => ?_⟩
    obtain ⟨s, hs, rfl⟩ := List.mem_map.mp hd
    exact q s (List.all_eq_true.mp near0 s hs)
  subst hK
  refine seq_k fun K hK => ?_; walk_at "dl"
  refine ⟨⟨rfl, rfl⟩, ?_⟩
  rw [eqd_int]
  refine ifB_dec (fun _ => ?_) (fun _ => ?_)
  · refine ⟨by show 12 ≤ sizeLine; decide, trivial, _, NEAR1.map D.str, rfl, .inl rfl, by decide, by decide, fun d hd => ?_⟩
    obtain ⟨s, hs, rfl⟩ := List.mem_map.mp hd
    exact q s (List.all_eq_true.mp near1 s hs)
  subst hK
  refine seq_k fun K hK => ?_; walk_at "dl"
  refine ⟨6, rfl, by decide, by decide, fun n n0 n1 => ?_⟩
  walk_at "dl"
  subst hK
  refine seq_k fun K hK => ?_; walk_at "dl"
  refine ⟨⟨by omega, by omega⟩, lc_all (fun d => ∃ c ∈ LET.cps.toList, d = .str ⟨#[c]⟩) (by rw [rng_length]; omega) (fun x hx R hR => ?_) (fun acc hl hq => ?_)⟩
  · walk_at "dl"
    refine ⟨_, _, rfl, .inr (.inr ⟨LET, rfl, by rw [let_len]; decide, rfl⟩), by decide +kernel, by decide +kernel, fun d hd => ?_⟩
    obtain ⟨c, hc, rfl⟩ := List.mem_map.mp hd
    exact hR _ ⟨c, hc, rfl⟩
  · rw [rng_length] at hl
    obtain ⟨cs, rfl, hc⟩ := chars_of hq
    rw [List.length_map] at hl
    walk_at "dl"
    refine onO_of (strsOf_map (fun c => (⟨#[c]⟩ : Str)) cs) ?_
    have hj := join_chars cs
    generalize Txt.join "" (cs.map fun c => (⟨#[c]⟩ : Str)) = s at hj
    have hs : s.length = cs.length := by
      rw [← hj, Array.length_toList]
      rfl
    have e1 : ((cs.map fun c => (⟨#[c]⟩ : Str)).map fun x => x.length).sum = cs.length := by
      rw [List.map_map]
      clear hc hl hq hj hs
      induction cs with
      | nil => rfl
      | cons c r ih =>
        rw [List.map_cons, List.sum_cons, ih]
        show 1 + r.length = r.length + 1
        omega
    refine ⟨by rw [e1, show ("" : Str).length = 0 by decide]; omega, ?_⟩
    subst hK
    walk_at "dl"
    refine ⟨by show 2 ≤ sizeLine; decide, rfl, ⟨rfl, flat_strs _⟩, ?_⟩
    rw [inD_strs]
    by_cases hk : s ∈ KEPTL
    · rw [decide_eq_true hk]
      exact onO_of rfl (q "q" (by decide +kernel))
    · rw [decide_eq_false hk]
      refine onO_of rfl (q _ ?_)
      unfold nameS
      rw [decide_eq_true (show 1 ≤ s.length ∧ s.length ≤ 6 from ⟨by omega, by omega⟩), decide_eq_false hk]
      refine List.all_eq_true.mpr fun c hcm => decide_eq_true (hc c ?_)
      rw [← hj]
      exact hcm
theorem len_w_number : ∀ ds xc R, sp_w_number ds xc R → ds.length = 1 := by
  rintro ds xc R ⟨rfl, _⟩
  rfl
theorem pure_w_number : ∀ ds xc R, sp_w_number ds xc R → d_w_number X0 { nx := fun _ => R (.dat .non), rt := R } (args N_w_number ds) := by
  rintro ds xc R ⟨rfl, q⟩
  show d_w_number X0 _ [some (.dat .drawl), none, none]
  unfold d_w_number
  refine seq_k fun K hK => ?_; walk_at "dl"
  refine ⟨pow9, 10 ^ 9, rfl, by decide, by decide, fun n n0 n1 => ?_⟩
  subst hK
  refine seq_k fun K hK => ?_; walk_at "dl"
  refine ⟨by decide, by decide, pow59, by decide, mulOk (by decide) (by omega), by show 4 ≤ sizeLine; decide, ?_⟩
  subst hK
  walk_at "dl"
  refine ⟨trivial, _, _, rfl, .inl rfl, by show 0 < 4; decide, by show 4 < 100000; decide, fun d hd => ?_⟩
  have hd : ∃ i : Int, d = .int i ∧ 0 ≤ i ∧ i < 2 * 10 ^ 59 := by
    simp only [List.mem_cons, List.not_mem_nil, or_false] at hd
    have e9 : (10 : Int) ^ Int.toNat 59 = 10 ^ 59 := rfl
    rcases hd with rfl | rfl | rfl | rfl
    · exact ⟨_, rfl, by omega, by omega⟩
    · exact ⟨_, rfl, by omega, by omega⟩
    · exact ⟨_, rfl, by omega, by omega⟩
    · exact ⟨_, rfl, by omega, by omega⟩
  obtain ⟨i, rfl, i0, i1⟩ := hd
  walk_at "dl"
  refine ⟨by show 2 ≤ sizeLine; decide, 2, rfl, by decide, by decide, fun s s0 s1 => ?_⟩
  walk_at "dl"
  have hs : s = 0 ∨ s = 1 := by omega
  rcases hs with rfl | rfl
  · refine onO_of (a := D.int 1) rfl ⟨wide_mul (a := 200) (b := 64) (by omega) (by omega) (by decide) (by decide) (by decide), q _ (by omega)⟩
  · refine onO_of (a := D.int (-1)) rfl ⟨wide_mul (a := 200) (b := 64) (by omega) (by omega) (by decide) (by decide) (by decide), q _ (by omega)⟩
theorem len_w_leaf : ∀ ds xc R, sp_w_leaf ds xc R → ds.length = 1 := by
  rintro ds xc R ⟨rfl, _⟩
  rfl
theorem pure_w_leaf : ∀ ds xc R, sp_w_leaf ds xc R → d_w_leaf X0 { nx := fun _ => R (.dat .non), rt := R } (args N_w_leaf ds) := by
  rintro ds xc R ⟨rfl, q⟩
  show d_w_leaf X0 _ [some (.dat .drawl), none]
  unfold d_w_leaf
  refine seq_k fun K hK => ?_; walk_at "dl"
  refine ⟨6, rfl, by decide, by decide, fun w w0 w1 => ?_⟩
  subst hK
  refine seq_k fun K hK => ?_; walk_at "dl"
  refine ifB_dec (fun _ => ?_) (fun _ => ?_)
  · refine ⟨rfl, fun i hi => ?_⟩
    walk_at "dl"
    exact ⟨sz rfl, q (.num i) hi rfl⟩
  subst hK
  refine seq_k fun K hK => ?_; walk_at "dl"
  refine ⟨⟨rfl, rfl⟩, ?_⟩
  rw [eqd_int]
  refine ifB_dec (fun _ => ?_) (fun h2 => ?_)
  · refine ⟨2, rfl, by decide, by decide, fun i _ _ => ?_⟩
    walk_at "dl"
    exact ⟨⟨rfl, rfl⟩, sz rfl, q (.tru _) trivial rfl⟩
  subst hK
  refine seq_k fun K hK => ?_; walk_at "dl"
  refine ⟨⟨rfl, rfl⟩, ?_⟩
  rw [eqd_int]
  refine ifB_dec (fun _ => ⟨sz rfl, q .non trivial rfl⟩) (fun h5 => ?_)
  subst hK
  walk_at "dl"
  refine ⟨sz rfl, ?_⟩
  have hw : w = 3 ∨ w = 4 := by omega
  rcases hw with rfl | rfl
  · refine onO_of (a := D.str "name") rfl ⟨rfl, fun s hs => ?_⟩
    walk_at "dl"
    exact ⟨sz rfl, q (.nam s) hs rfl⟩
  · refine onO_of (a := D.str "gap") rfl ⟨rfl, fun s hs => ?_⟩
    walk_at "dl"
    exact ⟨sz rfl, q (.gap s) hs rfl⟩
theorem pick_if {P : D → Prop} {b : Bool} {x y : D} (h1 : b = true → P y) (h2 : b = false → P x) : onO (atI [x, y] (if b = true then 1 else 0)) P := by
  cases b with
  | true => exact onO_of rfl (h1 rfl)
  | false => exact onO_of rfl (h2 rfl)
def WL : List Str := ["let", "fun", "call", "pair", "first", "second", "add", "fold", "again", "if", "less"]
def WL4 : List Str := ["plus", "minus", "less", "same"]
def WR : List Str := ["let", "fun", "call", "pair", "first", "second", "add", "fold", "again", "if", "plus", "minus", "less", "same"]
theorem wl_ok {w : Str} (h : w ∈ WL) : okS w ∧ (w ≠ "less" → w ∈ WR) := by
  simp only [WL, List.mem_cons, List.not_mem_nil, or_false] at h
  rcases h with rfl | rfl | rfl | rfl | rfl | rfl | rfl | rfl | rfl | rfl | rfl <;> exact ⟨by unfold okS; decide, fun _ => by simp [WR]⟩
theorem wl4_wr {w : Str} (h : w ∈ WL4) : w ∈ WR := by
  simp only [WL4, List.mem_cons, List.not_mem_nil, or_false] at h
  rcases h with rfl | rfl | rfl | rfl <;> simp [WR]
theorem wr_ok {w : Str} (h : w ∈ WR) : okS w := by
  simp only [WR, List.mem_cons, List.not_mem_nil, or_false] at h
  rcases h with rfl | rfl | rfl | rfl | rfl | rfl | rfl | rfl | rfl | rfl | rfl | rfl | rfl | rfl <;> (unfold okS; decide)
theorem wr_two {w : Str} (h : w ∈ WR) (h1 : ¬ w ∈ W1) (h2 : ¬ w = "let") (h3 : ¬ w = "fun") (h4 : ¬ w = "fold") (h5 : ¬ w = "again") (h6 : ¬ w = "if") : w ∈ W2 := by
  simp only [WR, List.mem_cons, List.not_mem_nil, or_false] at h
  rcases h with rfl | rfl | rfl | rfl | rfl | rfl | rfl | rfl | rfl | rfl | rfl | rfl | rfl | rfl <;> first | exact absurd rfl h2 | exact absurd rfl h3 | exact absurd rfl h4 | exact absurd rfl h5 | exact absurd rfl h6 | (simp [W2]; done) | exact absurd (by simp [W1]) h1
theorem len_w_term (n : Nat) : ∀ ds xc R, sp_w_term n ds xc R → ds.length = 2 := by
  rintro ds xc R ⟨k, rfl, _⟩
  rfl
theorem no_w_term : ∀ ds xc R, ¬ sp_w_term 0 ds xc R := by
  rintro ds xc R ⟨k, rfl, h, h2, _⟩
  omega
theorem pure_w_term (n : Nat) : ∀ ds xc R, sp_w_term (n + 1) ds xc R → d_w_term n X0 { nx := fun _ => R (.dat .non), rt := R } (args N_w_term ds) := by
  rintro ds xc R ⟨k, rfl, k0, k1, q⟩
  show d_w_term n X0 _ [some (.dat .drawl), some (.dat (.int k)), none, none, none, none, none]
  unfold d_w_term
  have lf : sp_w_leaf [.drawl] (fun _ => False) R := ⟨rfl, fun t ok dp => q t ok (by omega)⟩
  refine seq_k fun K hK => ?_; walk_at "dl"
  refine ⟨by show 11 ≤ sizeLine; decide, ?_⟩
  subst hK
  refine seq_k fun K hK => ?_; walk_at "dl"
  refine ⟨trivial, _, WL.map D.str, rfl, .inl rfl, by decide, by decide, fun d hd => ?_⟩
  obtain ⟨w, hw, rfl⟩ := List.mem_map.mp hd
  obtain ⟨hwo, hwl⟩ := wl_ok hw
  subst hK
  refine seq_k fun K hK => ?_; walk_at "dl"
  refine ⟨⟨rfl, rfl⟩, ?_⟩
  rw [eqd_int]
  refine ifB_dec (fun _ => lf) (fun hk => ⟨4, rfl, by decide, by decide, fun a _ _ => ?_⟩)
  walk_at "dl"
  refine ⟨⟨rfl, rfl⟩, ifB_of (fun _ => lf) (fun _ => ?_)⟩
  subst hK
  refine seq_k fun K hK => ?_; walk_at "dl"
  have rest : ∀ w, w ∈ WR → K [some (.dat .drawl), some (.dat (.int k)), some (.dat (.lst (WL.map D.str))), some (.dat (.str w)), none, none, none] := by
    intro w hw
    have hwo := wr_ok hw
    have sub : ∀ P : Val → Prop, (∀ t : Tm, t.ok → (t.deep : Int) ≤ k → P (.dat t.d)) → sp_w_term n [.drawl, .int (k - 1)] (fun _ => False) P := fun P h => ⟨k - 1, rfl, by omega, by omega, fun t ok dp => h t ok (by omega)⟩
    subst hK
    refine seq_k fun K hK => ?_; walk_at "dl"
    refine ⟨sz rfl, ⟨rfl, rfl⟩, ?_⟩
    rw [show inD (.str w) [.str "first", .str "second"] = decide (w ∈ W1) from inD_strs w W1]
    refine ifB_dec (fun h1 => ?_) (fun h1 => ?_)
    · refine sub _ fun t ok dp => ⟨sz rfl, q (.t1 w t) ⟨h1, ok⟩ ?_⟩
      show ((t.deep + 1 : Nat) : Int) ≤ _
      omega
    subst hK
    refine seq_k fun K hK => ?_; walk_at "dl"
    refine ⟨⟨eqOk_str hwo, eqOk_str (by unfold okS; decide)⟩, ?_⟩
    rw [eqd_str]
    refine ifB_dec (fun h2 => ?_) (fun h2 => ?_)
    · subst h2
      refine ⟨rfl, fun x hx => ?_⟩
      walk_at "dl"
      refine sub _ fun a aok adp => ?_
      walk_at "dl"
      refine sub _ fun b bok bdp => ⟨sz rfl, q (.lt x a b) ⟨hx, aok, bok⟩ ?_⟩
      show ((max a.deep b.deep + 1 : Nat) : Int) ≤ _
      omega
    subst hK
    refine seq_k fun K hK => ?_; walk_at "dl"
    refine ⟨⟨eqOk_str hwo, eqOk_str (by unfold okS; decide)⟩, ?_⟩
    rw [eqd_str]
    refine ifB_dec (fun h3 => ?_) (fun h3 => ?_)
    · subst h3
      refine ⟨rfl, fun x hx => ?_⟩
      walk_at "dl"
      refine sub _ fun a aok adp => ⟨sz rfl, q (.fn x a) ⟨hx, aok⟩ ?_⟩
      show ((a.deep + 1 : Nat) : Int) ≤ _
      omega
    subst hK
    refine seq_k fun K hK => ?_; walk_at "dl"
    refine sub _ fun a aok adp => ?_
    subst hK
    refine seq_k fun K hK => ?_; walk_at "dl"
    refine sub _ fun b bok bdp => ?_
    subst hK
    refine seq_k fun K hK => ?_; walk_at "dl"
    refine ⟨⟨eqOk_str hwo, eqOk_str (by unfold okS; decide)⟩, ?_⟩
    rw [eqd_str]
    refine ifB_dec (fun h4 => ?_) (fun h4 => ?_)
    · subst h4
      refine ⟨rfl, fun x hx => ?_⟩
      walk_at "dl"
      refine ⟨sz rfl, ⟨eqOk_str (name_ok hx), eqOk_str (by unfold okS; decide)⟩, ?_⟩
      have fin : ∀ y : Str, nameS y = true → x ≠ y → sp_w_term n [.drawl, .int (k - 1)] (fun _ => False) fun z => asD (fun d => [D.str "fold", a.d, b.d, D.str x, D.str y, d].length ≤ sizeLine ∧ R (.dat (.tup [.str "fold", a.d, b.d, .str x, .str y, d]))) z := by
        intro y hy hxy
        refine sub _ fun c cok cdp => ⟨sz rfl, q (.fo a b x y c) ⟨hx, hy, hxy, aok, bok, cok⟩ ?_⟩
        show ((max (max a.deep b.deep) c.deep + 1 : Nat) : Int) ≤ _
        omega
      refine pick_if (fun hz => fin "zz" (by decide +kernel) ?_) (fun hz => fin "z" (by decide +kernel) ?_)
      · rw [show eqd (.str x) (.str "z") = decide (x = "z") from eqd_str _ _] at hz
        rw [of_decide_eq_true hz]
        decide
      · rw [show eqd (.str x) (.str "z") = decide (x = "z") from eqd_str _ _] at hz
        exact of_decide_eq_false hz
    subst hK
    refine seq_k fun K hK => ?_; walk_at "dl"
    refine ⟨⟨eqOk_str hwo, eqOk_str (by unfold okS; decide)⟩, ?_⟩
    rw [eqd_str]
    refine ifB_dec (fun h5 => ?_) (fun h5 => ?_)
    · subst h5
      refine ⟨rfl, fun x hx => ?_⟩
      walk_at "dl"
      refine sub _ fun c cok cdp => ⟨sz rfl, q (.ag a b x c) ⟨hx, aok, bok, cok⟩ ?_⟩
      show ((max (max a.deep b.deep) c.deep + 1 : Nat) : Int) ≤ _
      omega
    subst hK
    refine seq_k fun K hK => ?_; walk_at "dl"
    refine ⟨⟨eqOk_str hwo, eqOk_str (by unfold okS; decide)⟩, ?_⟩
    rw [eqd_str]
    refine ifB_dec (fun h6 => ?_) (fun h6 => ?_)
    · subst h6
      refine sub _ fun c cok cdp => ⟨sz rfl, q (.iff a b c) ⟨aok, bok, cok⟩ ?_⟩
      show ((max (max a.deep b.deep) c.deep + 1 : Nat) : Int) ≤ _
      omega
    subst hK
    walk_at "dl"
    refine ⟨sz rfl, q (.t2 w a b) ⟨wr_two hw h1 h2 h3 h4 h5 h6, aok, bok⟩ ?_⟩
    show ((max a.deep b.deep + 1 : Nat) : Int) ≤ _
    omega
  refine ⟨⟨eqOk_str hwo, eqOk_str (by unfold okS; decide)⟩, ?_⟩
  rw [eqd_str]
  refine ifB_dec (fun _ => ?_) (fun h => rest w (hwl h))
  refine ⟨by show 4 ≤ sizeLine; decide, trivial, _, WL4.map D.str, rfl, .inl rfl, by decide, by decide, fun d hd => ?_⟩
  obtain ⟨w2, hw2, rfl⟩ := List.mem_map.mp hd
  exact rest w2 (wl4_wr hw2)
/-! ### how many parts -/
theorem part_get {t : Tm} {i : Nat} {x : D} (h : (t.pars.map Tm.P.d)[i]? = some x) : ∃ p, t.pars[i]? = some p ∧ x = p.d ∧ p ∈ t.pars := by
  rw [List.getElem?_map] at h
  obtain ⟨p, hp, e⟩ := Option.map_eq_some_iff.mp h
  exact ⟨p, hp, e.symm, List.mem_of_getElem? hp⟩
theorem p_plain {p : Tm.P} : p.d.plain = true := by
  cases p with
  | t a => cases a <;> rfl
  | _ => rfl
theorem len_w_size (n : Nat) : ∀ ds xc R, sp_w_size n ds xc R → ds.length = 1 := by
  rintro ds xc R ⟨k, rfl, _⟩
  rfl
theorem no_w_size : ∀ ds xc R, ¬ sp_w_size 0 ds xc R := by
  rintro ds xc R ⟨t, rfl, _, h2, _⟩
  have := t.deep_pos
  omega
theorem pure_w_size (n : Nat) : ∀ ds xc R, sp_w_size (n + 1) ds xc R → d_w_size n X0 { nx := fun _ => R (.dat .non), rt := R } (args N_w_size ds) := by
  rintro ds xc R ⟨t, rfl, ok, dp, q⟩
  show d_w_size n X0 _ [some (.dat t.d), none, none, none, none]
  unfold d_w_size
  refine seq_k fun K hK => ?_; walk_at "dl"
  subst hK
  refine seq_k fun K hK => ?_; walk_at "dl"
  subst hK
  refine seq_k fun K hK => ?_; walk_at "dl"
  rw [t.d_eq]
  walk_at "dl"
  rw [cut_tail]
  refine ⟨fun i r => ∃ x3 x4, r = [some (.dat (.tup (.str t.word :: t.pars.map Tm.P.d))), some (.dat (.int (1 + (((t.pars.take i).map Tm.P.many).sum : Nat)))), some (.dat (.int (((t.pars.take i).map Tm.P.deep).foldl max 0 : Nat))), x3, x4], ⟨_, _, rfl⟩, ?_, ?_⟩
  · rintro i x r hx ⟨x3, x4, rfl⟩
    obtain ⟨p, hp, rfl, hm⟩ := part_get hx
    refine gN_mk ?_
    walk_at "dl"
    refine ⟨p_plain, ?_⟩
    rw [Tm.take_snoc hp, List.map_append, List.map_append, List.sum_append, List.foldl_append]
    cases p with
    | t a =>
      rw [show (Tm.P.d (.t a)).isi .tuple = true from a.d_tup]
      refine ifB_T rfl ⟨a, rfl, Tm.pars_ok ok _ hm, by have := Tm.pars_deep hm; omega, ?_⟩
      walk_at "dl"
      refine onO_of (a := D.int a.many) rfl ?_
      walk_at "dl"
      refine onO_of (a := D.int a.deep) rfl ?_
      walk_at "dl"
      refine ⟨some (.dat a.d), some (.dat (.tup [.int a.many, .int a.deep])), ?_⟩
      have e1 : (1 + ((((t.pars.take i).map Tm.P.many).sum : Nat) : Int) + (a.many : Int)) = 1 + (((((t.pars.take i).map Tm.P.many).sum + ([Tm.P.t a].map Tm.P.many).sum : Nat)) : Int) := by
        show _ = 1 + ((_ + (a.many + 0) : Nat) : Int)
        omega
      have e2 : (if (a.deep : Int) > ((((t.pars.take i).map Tm.P.deep).foldl max 0 : Nat) : Int) then (a.deep : Int) else ((((t.pars.take i).map Tm.P.deep).foldl max 0 : Nat) : Int)) = ((([Tm.P.t a].map Tm.P.deep).foldl max (((t.pars.take i).map Tm.P.deep).foldl max 0) : Nat) : Int) := by
        show _ = ((max _ a.deep : Nat) : Int)
        split <;> omega
      rw [← e1, ← e2]
      rfl
    | s y =>
      refine ifB_F rfl ⟨some (.dat (.str y)), x4, ?_⟩
      rw [show ([Tm.P.s y].map Tm.P.many).sum = 0 from rfl, Nat.add_zero, show ∀ F, ([Tm.P.s y].map Tm.P.deep).foldl max F = max F 0 from fun _ => rfl, Nat.max_zero]
      rfl
    | i y =>
      refine ifB_F rfl ⟨some (.dat (.int y)), x4, ?_⟩
      rw [show ([Tm.P.i y].map Tm.P.many).sum = 0 from rfl, Nat.add_zero, show ∀ F, ([Tm.P.i y].map Tm.P.deep).foldl max F = max F 0 from fun _ => rfl, Nat.max_zero]
      rfl
    | b y =>
      refine ifB_F rfl ⟨some (.dat (.bl y)), x4, ?_⟩
      rw [show ([Tm.P.b y].map Tm.P.many).sum = 0 from rfl, Nat.add_zero, show ∀ F, ([Tm.P.b y].map Tm.P.deep).foldl max F = max F 0 from fun _ => rfl, Nat.max_zero]
      rfl
  · rintro r ⟨x3, x4, rfl⟩
    rw [List.length_map, List.take_length]
    dsimp only
    subst hK
    walk_at "dl"
    refine ⟨sz rfl, ?_⟩
    have e1 : (1 + (((t.pars.map Tm.P.many).sum : Nat) : Int)) = (t.many : Int) := by
      rw [t.many_pars]
      omega
    have e2 : ((((t.pars.map Tm.P.deep).foldl max 0 : Nat) : Int) + 1) = (t.deep : Int) := by
      rw [t.deep_pars]
      omega
    rw [e1, e2]
    exact q
theorem num_log {i : Int} (h : i.natAbs < 10 ^ 61) : i.natAbs.log2 < 1920 := by
  by_cases z : i.natAbs = 0
  · rw [z]; decide
  · exact (Nat.log2_lt z).mpr (Nat.lt_trans h (by decide))
theorem len_words_of_term (n : Nat) : ∀ ds xc R, sp_words_of_term n ds xc R → ds.length = 1 := by
  rintro ds xc R ⟨k, rfl, _⟩
  rfl
theorem no_words_of_term : ∀ ds xc R, ¬ sp_words_of_term 0 ds xc R := by
  rintro ds xc R ⟨t, rfl, _, h2, _⟩
  have := t.deep_pos
  omega
theorem len_w_words (n : Nat) : ∀ ds xc R, sp_w_words n ds xc R → ds.length = 1 := len_words_of_term n
theorem no_w_words : ∀ ds xc R, ¬ sp_w_words 0 ds xc R := no_words_of_term
theorem four {w a : Str} {A B : Prop} (hw : okS w) (ha : okS a) (n : w ≠ a) (h : B) : (eqOk (.str w) = true ∧ eqOk (.str a) = true) ∧ ifB (eqd (.str w) (.str a)) A B := by
  refine ⟨⟨eqOk_str hw, eqOk_str ha⟩, ?_⟩
  rw [eqd_str]
  exact ifB_F (decide_eq_false n) h
theorem fourT {w a : Str} {A B : Prop} (hw : okS w) (n : w = a) (h : A) : (eqOk (.str w) = true ∧ eqOk (.str a) = true) ∧ ifB (eqd (.str w) (.str a)) A B := by
  subst n
  refine ⟨⟨eqOk_str hw, eqOk_str hw⟩, ?_⟩
  rw [eqd_str]
  exact ifB_T (decide_eq_true rfl) h
theorem pure_words_of_term (n : Nat) : ∀ ds xc R, sp_words_of_term (n + 1) ds xc R → d_words_of_term n X0 { nx := fun _ => R (.dat .non), rt := R } (args N_words_of_term ds) := by
  rintro ds xc R ⟨t, rfl, ok, dp, hl, q⟩
  show d_words_of_term n X0 _ [some (.dat t.d), none, none]
  have o1 : okS "number" := by unfold okS; decide
  have o2 : okS "truth" := by unfold okS; decide
  have o3 : okS "name" := by unfold okS; decide
  have o4 : okS "gap" := by unfold okS; decide
  have gen : t.plain → d_words_of_term n X0 { nx := fun _ => R (.dat .non), rt := R } [some (.dat t.d), none, none] := by
    unfold d_words_of_term
    intro hp
    obtain ⟨n1, n2, n3, n4⟩ := Tm.plain_word ok hp
    have hw := (Tm.word_len ok).2
    rw [t.d_eq]
    refine seq_k fun K hK => ?_; walk_at "dl"
    refine onO_of (at0 _ _) (four hw o1 n1 ?_)
    subst hK
    refine seq_k fun K hK => ?_; walk_at "dl"
    refine onO_of (at0 _ _) (four hw o2 n2 ?_)
    subst hK
    refine seq_k fun K hK => ?_; walk_at "dl"
    refine onO_of (at0 _ _) (four hw o3 n3 ?_)
    subst hK
    refine seq_k fun K hK => ?_; walk_at "dl"
    refine onO_of (at0 _ _) (four hw o4 n4 ?_)
    subst hK
    refine seq_k fun K hK => ?_; walk_at "dl"
    refine onO_of (at0 _ _) ⟨sz rfl, ?_⟩
    subst hK
    refine seq_k fun K hK => ?_; walk_at "dl"
    rw [cut_tail]
    refine ⟨fun i r => ∃ x2, r = [some (.dat (.tup (.str t.word :: t.pars.map Tm.P.d))), some (.tmp (.lst ((t.word :: (t.pars.take i).flatMap Tm.P.wds).map D.str))), x2], ⟨_, rfl⟩, ?_, ?_⟩
    · rintro i x r hx ⟨x2, rfl⟩
      obtain ⟨p, hp2, rfl, hm⟩ := part_get hx
      have room := Tm.wds_room hp hp2
      refine gN_mk ?_
      walk_at "dl"
      refine ⟨p_plain, ?_⟩
      rw [Tm.take_snoc hp2, List.flatMap_append]
      rcases Tm.plain_pars hp p hm with ⟨y, rfl⟩ | ⟨a, rfl⟩
      · refine ifB_F rfl ⟨sz rfl, trivial, ?_⟩
        refine ⟨?_, some (.dat (.str y)), ?_⟩
        · rw [List.length_map]
          exact small_sz (by have : (Tm.P.wds (.s y)).length = 1 := rfl; show _ + 1 ≤ _; omega)
        · show _ = [_, some (Val.tmp (.lst ((t.word :: (List.flatMap Tm.P.wds (List.take i t.pars) ++ [y])).map D.str))), _]
          rw [← List.cons_append, List.map_append]
          rfl
      · rw [show (Tm.P.d (.t a)).isi .tuple = true from a.d_tup]
        have ha : (Tm.P.wds (.t a)).length = a.wds.length := rfl
        refine ifB_T rfl ⟨a, rfl, Tm.pars_ok ok _ hm, by have := Tm.pars_deep hm; omega, by omega, trivial, ?_⟩
        walk_at "dl"
        refine ⟨?_, some (.dat a.d), ?_⟩
        · rw [List.length_map, List.length_map]
          exact small_sz (by omega)
        · rw [← List.map_append]
          show _ = [_, some (Val.tmp (.lst ((t.word :: (List.flatMap Tm.P.wds (List.take i t.pars) ++ (a.wds ++ []))).map D.str))), _]
          rw [List.append_nil]
          rfl
    · rintro r ⟨x2, rfl⟩
      rw [List.length_map, List.take_length, ← Tm.wds_plain hp]
      dsimp only
      subst hK
      walk_at "dl"
      exact q
  cases t with
  | num i =>
    show d_words_of_term n X0 _ [some (.dat (.tup [.str "number", .int i])), none, none]
    unfold d_words_of_term
    walk_at "dl"
    refine onO_of (a := D.str "number") rfl (fourT o1 rfl ?_)
    refine onO_of (a := D.int i) rfl ?_
    walk_at "dl"
    exact ⟨num_log ok, sz rfl, q⟩
  | tru b =>
    show d_words_of_term n X0 _ [some (.dat (.tup [.str "truth", .bl b])), none, none]
    unfold d_words_of_term
    refine seq_k fun K hK => ?_; walk_at "dl"
    refine onO_of (a := D.str "truth") rfl (four o2 o1 (by decide) ?_)
    subst hK
    walk_at "dl"
    refine onO_of (a := D.str "truth") rfl (fourT o2 rfl ?_)
    refine onO_of (a := D.bl b) rfl ?_
    walk_at "dl"
    cases b
    · exact ifB_F rfl ⟨sz rfl, q⟩
    · exact ifB_T rfl ⟨sz rfl, q⟩
  | nam s =>
    show d_words_of_term n X0 _ [some (.dat (.tup [.str "name", .str s])), none, none]
    unfold d_words_of_term
    refine seq_k fun K hK => ?_; walk_at "dl"
    refine onO_of (a := D.str "name") rfl (four o3 o1 (by decide) ?_)
    subst hK
    refine seq_k fun K hK => ?_; walk_at "dl"
    refine onO_of (a := D.str "name") rfl (four o3 o2 (by decide) ?_)
    subst hK
    walk_at "dl"
    refine onO_of (a := D.str "name") rfl (fourT o3 rfl ?_)
    refine onO_of (a := D.str s) rfl ⟨sz rfl, q⟩
  | gap s =>
    show d_words_of_term n X0 _ [some (.dat (.tup [.str "gap", .str s])), none, none]
    unfold d_words_of_term
    refine seq_k fun K hK => ?_; walk_at "dl"
    refine onO_of (a := D.str "gap") rfl (four o4 o1 (by decide) ?_)
    subst hK
    refine seq_k fun K hK => ?_; walk_at "dl"
    refine onO_of (a := D.str "gap") rfl (four o4 o2 (by decide) ?_)
    subst hK
    refine seq_k fun K hK => ?_; walk_at "dl"
    refine onO_of (a := D.str "gap") rfl (four o4 o3 (by decide) ?_)
    subst hK
    walk_at "dl"
    refine onO_of (a := D.str "gap") rfl (fourT o4 rfl ?_)
    refine onO_of (a := D.str s) rfl ?_
    walk_at "dl"
    have := name_len (show nameS s = true from ok)
    exact ⟨small_sz (by rw [show ("?" : Str).length = 1 by decide]; omega), sz rfl, q⟩
  | non => exact gen trivial
  | t1 _ _ => exact gen trivial
  | t2 _ _ _ => exact gen trivial
  | lt _ _ _ => exact gen trivial
  | fn _ _ => exact gen trivial
  | fo _ _ _ _ _ => exact gen trivial
  | ag _ _ _ _ => exact gen trivial
  | iff _ _ _ => exact gen trivial
theorem pure_w_words (n : Nat) : ∀ ds xc R, sp_w_words (n + 1) ds xc R → d_w_words n X0 { nx := fun _ => R (.dat .non), rt := R } (args N_w_words ds) := by
  rintro ds xc R ⟨t, rfl, ok, dp, hl, q⟩
  show d_w_words n X0 _ [some (.dat t.d), none, none]
  have o1 : okS "number" := by unfold okS; decide
  have o2 : okS "truth" := by unfold okS; decide
  have o3 : okS "name" := by unfold okS; decide
  have o4 : okS "gap" := by unfold okS; decide
  have gen : t.plain → d_w_words n X0 { nx := fun _ => R (.dat .non), rt := R } [some (.dat t.d), none, none] := by
    unfold d_w_words
    intro hp
    obtain ⟨n1, n2, n3, n4⟩ := Tm.plain_word ok hp
    have hw := (Tm.word_len ok).2
    rw [t.d_eq]
    refine seq_k fun K hK => ?_; walk_at "dl"
    refine onO_of (at0 _ _) (four hw o1 n1 ?_)
    subst hK
    refine seq_k fun K hK => ?_; walk_at "dl"
    refine onO_of (at0 _ _) (four hw o2 n2 ?_)
    subst hK
    refine seq_k fun K hK => ?_; walk_at "dl"
    refine onO_of (at0 _ _) (four hw o3 n3 ?_)
    subst hK
    refine seq_k fun K hK => ?_; walk_at "dl"
    refine onO_of (at0 _ _) (four hw o4 n4 ?_)
    subst hK
    refine seq_k fun K hK => ?_; walk_at "dl"
    refine onO_of (at0 _ _) ⟨sz rfl, ?_⟩
    subst hK
    refine seq_k fun K hK => ?_; walk_at "dl"
    rw [cut_tail]
    refine ⟨fun i r => ∃ x2, r = [some (.dat (.tup (.str t.word :: t.pars.map Tm.P.d))), some (.tmp (.lst ((t.word :: (t.pars.take i).flatMap Tm.P.wds).map D.str))), x2], ⟨_, rfl⟩, ?_, ?_⟩
    · rintro i x r hx ⟨x2, rfl⟩
      obtain ⟨p, hp2, rfl, hm⟩ := part_get hx
      have room := Tm.wds_room hp hp2
      refine gN_mk ?_
      walk_at "dl"
      refine ⟨p_plain, ?_⟩
      rw [Tm.take_snoc hp2, List.flatMap_append]
      rcases Tm.plain_pars hp p hm with ⟨y, rfl⟩ | ⟨a, rfl⟩
      · refine ifB_F rfl ⟨?_, some (.dat (.str y)), ?_⟩
        · rw [List.length_map]
          exact small_lt (by have : (Tm.P.wds (.s y)).length = 1 := rfl; omega)
        · show _ = [_, some (Val.tmp (.lst ((t.word :: (List.flatMap Tm.P.wds (List.take i t.pars) ++ [y])).map D.str))), _]
          rw [← List.cons_append, List.map_append]
          rfl
      · rw [show (Tm.P.d (.t a)).isi .tuple = true from a.d_tup]
        have ha : (Tm.P.wds (.t a)).length = a.wds.length := rfl
        refine ifB_T rfl ⟨a, rfl, Tm.pars_ok ok _ hm, by have := Tm.pars_deep hm; omega, by omega, ?_⟩
        walk_at "dl"
        refine ⟨?_, some (.dat a.d), ?_⟩
        · rw [List.length_map, List.length_map]
          exact small_sz (by omega)
        · show _ = [_, some (Val.tmp (.lst ((t.word :: (List.flatMap Tm.P.wds (List.take i t.pars) ++ (a.wds ++ []))).map D.str))), _]
          rw [List.append_nil, ← List.cons_append, List.map_append]
          rfl
    · rintro r ⟨x2, rfl⟩
      rw [List.length_map, List.take_length, ← Tm.wds_plain hp]
      dsimp only
      subst hK
      walk_at "dl"
      exact q
  cases t with
  | num i =>
    show d_w_words n X0 _ [some (.dat (.tup [.str "number", .int i])), none, none]
    unfold d_w_words
    walk_at "dl"
    refine onO_of (a := D.str "number") rfl (fourT o1 rfl ?_)
    refine onO_of (a := D.int i) rfl ?_
    walk_at "dl"
    exact ⟨num_log ok, sz rfl, q⟩
  | tru b =>
    show d_w_words n X0 _ [some (.dat (.tup [.str "truth", .bl b])), none, none]
    unfold d_w_words
    refine seq_k fun K hK => ?_; walk_at "dl"
    refine onO_of (a := D.str "truth") rfl (four o2 o1 (by decide) ?_)
    subst hK
    walk_at "dl"
    refine onO_of (a := D.str "truth") rfl (fourT o2 rfl ?_)
    refine ⟨sz rfl, onO_of (a := D.bl b) rfl ?_⟩
    walk_at "dl"
    cases b
    · exact onO_of (a := D.str "no") rfl ⟨sz rfl, q⟩
    · exact onO_of (a := D.str "yes") rfl ⟨sz rfl, q⟩
  | nam s =>
    show d_w_words n X0 _ [some (.dat (.tup [.str "name", .str s])), none, none]
    unfold d_w_words
    refine seq_k fun K hK => ?_; walk_at "dl"
    refine onO_of (a := D.str "name") rfl (four o3 o1 (by decide) ?_)
    subst hK
    refine seq_k fun K hK => ?_; walk_at "dl"
    refine onO_of (a := D.str "name") rfl (four o3 o2 (by decide) ?_)
    subst hK
    walk_at "dl"
    refine onO_of (a := D.str "name") rfl (fourT o3 rfl ?_)
    refine onO_of (a := D.str s) rfl ⟨sz rfl, q⟩
  | gap s =>
    show d_w_words n X0 _ [some (.dat (.tup [.str "gap", .str s])), none, none]
    unfold d_w_words
    refine seq_k fun K hK => ?_; walk_at "dl"
    refine onO_of (a := D.str "gap") rfl (four o4 o1 (by decide) ?_)
    subst hK
    refine seq_k fun K hK => ?_; walk_at "dl"
    refine onO_of (a := D.str "gap") rfl (four o4 o2 (by decide) ?_)
    subst hK
    refine seq_k fun K hK => ?_; walk_at "dl"
    refine onO_of (a := D.str "gap") rfl (four o4 o3 (by decide) ?_)
    subst hK
    walk_at "dl"
    refine onO_of (a := D.str "gap") rfl (fourT o4 rfl ?_)
    refine onO_of (a := D.str s) rfl ?_
    walk_at "dl"
    have := name_len (show nameS s = true from ok)
    exact ⟨small_sz (by rw [show ("?" : Str).length = 1 by decide]; omega), sz rfl, q⟩
  | non => exact gen trivial
  | t1 _ _ => exact gen trivial
  | t2 _ _ _ => exact gen trivial
  | lt _ _ _ => exact gen trivial
  | fn _ _ => exact gen trivial
  | fo _ _ _ _ _ => exact gen trivial
  | ag _ _ _ _ => exact gen trivial
  | iff _ _ _ => exact gen trivial
theorem both {p C Z B : Prop} [Decidable p] (hz : C → Z) (hp : p → C) (hb : ¬ p → (C → Z) → B) : ifB (decide p) Z B := ifB_dec (fun h => hz (hp h)) (fun h => hb h hz)
def W2J : List Str := ["pair", "call", "add", "plus", "minus", "less", "same"]
theorem W2J_W2 {w : Str} (h : w ∈ W2J) : w ∈ W2 := by
  simp only [W2J, List.mem_cons, List.not_mem_nil, or_false] at h
  rcases h with rfl | rfl | rfl | rfl | rfl | rfl | rfl <;> simp [W2]
def Tm.W1L : List D := W1.map D.str
def Tm.W2L : List D := W2J.map D.str
namespace Tm
/-- its own parts that are terms -/
def subs (t : Tm) : List Tm := t.pars.filterMap fun p => match p with
  | .t a => some a
  | _ => none
theorem subs_mem {t a : Tm} (h : a ∈ t.subs) : P.t a ∈ t.pars := by
  obtain ⟨p, hp, e⟩ := List.mem_filterMap.mp h
  cases p with
  | t b => cases e; exact hp
  | _ => cases e
theorem leaf_or {t : Tm} : (t.many = 1 ∧ t.wds.length = 1) ∨ ∃ a r, t.subs = a :: r := by
  cases t <;> first | exact .inl ⟨rfl, rfl⟩ | exact .inr ⟨_, _, rfl⟩
theorem subs_filter : ∀ l : List P, (l.map P.d).filter (fun d => d.isi .tuple) = (l.filterMap fun p => match p with
  | .t a => some a
  | _ => none).map Tm.d
  | [] => rfl
  | .t a :: r => by
    rw [List.map_cons, List.filter_cons, show (P.d (.t a)).isi .tuple = true from a.d_tup, if_pos rfl, subs_filter r]
    rfl
  | .s x :: r => by
    rw [List.map_cons, List.filter_cons, show (P.d (.s x)).isi .tuple = false from rfl, if_neg Bool.false_ne_true, subs_filter r]
    rfl
  | .i x :: r => by
    rw [List.map_cons, List.filter_cons, show (P.d (.i x)).isi .tuple = false from rfl, if_neg Bool.false_ne_true, subs_filter r]
    rfl
  | .b x :: r => by
    rw [List.map_cons, List.filter_cons, show (P.d (.b x)).isi .tuple = false from rfl, if_neg Bool.false_ne_true, subs_filter r]
    rfl
theorem many_one {t : Tm} (h : t.deep = 1) : t.many = 1 := by
  cases t with
  | t1 w a => have := a.deep_pos; simp only [deep] at h; omega
  | fn w a => have := a.deep_pos; simp only [deep] at h; omega
  | t2 w a b => have := a.deep_pos; simp only [deep] at h; omega
  | lt w a b => have := a.deep_pos; simp only [deep] at h; omega
  | fo a b x y c => have := a.deep_pos; simp only [deep] at h; omega
  | ag a b x c => have := a.deep_pos; simp only [deep] at h; omega
  | iff a b c => have := a.deep_pos; simp only [deep] at h; omega
  | _ => rfl
theorem pars_filter (t : Tm) : (t.pars.map P.d).filter (fun d => d.isi .tuple) = t.subs.map Tm.d := subs_filter t.pars
end Tm
theorem mem_str {α : Type} {f : α → D} {l : List α} {d : D} (h : d ∈ l.map f) : ∃ a, a ∈ l ∧ d = f a := by
  obtain ⟨a, h1, h2⟩ := List.mem_map.mp h
  exact ⟨a, h1, h2.symm⟩
theorem len_w_fit : ∀ ds xc R, sp_w_fit ds xc R → ds.length = 2 := by
  rintro ds xc R ⟨rfl, _⟩
  rfl
theorem pure_w_fit : ∀ ds xc R, sp_w_fit ds xc R → d_w_fit X0 { nx := fun _ => R (.dat .non), rt := R } (args N_w_fit ds) := by
  rintro ds xc R ⟨rfl, q⟩
  show d_w_fit X0 _ [some (.dat .drawl), some (.dat (.int 5)), none, none]
  unfold d_w_fit
  refine seq_k fun K hK => ?_; walk_at "dl"
  refine ⟨5, rfl, by decide, by decide, fun t ok dp => ?_⟩
  subst hK
  refine seq_k fun K hK => ?_; walk_at "dl"
  refine ⟨fun m r => ∃ (t : Tm) (x3 : Option Val), r = [some (.dat .drawl), some (.dat (.int 5)), some (.dat t.d), x3] ∧ t.ok ∧ t.deep ≤ 6 ∧ t.many = m, ⟨_, t, _, rfl, ok, by omega, rfl⟩, ?_⟩
  rintro m r ⟨t, x3, rfl, ok, dp, rfl⟩
  walk_at "dl"
  refine ⟨t, rfl, ok, by omega, ?_⟩
  walk_at "dl"
  refine onO_of (a := D.int t.many) rfl ?_
  walk_at "dl"
  have wl := t.wds_len
  refine both (C := t.many ≠ 1 ∨ t.wds.length ≠ 1) (fun h => ?_) (fun h => .inl (by omega)) (fun h z => ?_)
  · rw [t.d_eq]
    walk_at "dl"
    rw [cut_tail]
    refine lc_filter (fun d => d.isi .tuple) (fun d => d) (by rw [List.length_map]; have := t.pars_len; omega) (fun x hx Rt Rf ht hf => ?_) ?_
    · obtain ⟨p, _, rfl⟩ := mem_str hx
      refine gN_mk ?_
      walk_at "dl"
      exact ⟨p_plain, ifB_of ht hf⟩
    · rw [t.pars_filter, List.map_id']
      rcases t.leaf_or with ⟨h1, h2⟩ | ⟨a, r, e⟩
      · omega
      · rw [e]
        have hm : Tm.P.t a ∈ t.pars := Tm.subs_mem (by rw [e]; exact List.mem_cons_self ..)
        have := Tm.pars_deep hm
        refine onO_of (a := a.d) (at0 _ _) ?_
        exact ⟨_, Tm.pars_many hm, a, x3, rfl, Tm.pars_ok ok _ hm, by omega, rfl⟩
  · refine ⟨t, rfl, ok, by omega, by omega, ?_⟩
    walk_at "dl"
    refine onO_of (strsOf_map (fun s => s) t.wds) ?_
    rw [List.map_id']
    have hl := Tm.txt_len ok
    refine ⟨Tm.join_ok ok (by omega), ?_⟩
    show t.txt.length ≤ sizeLine ∧ ifB (decide (3500 < (t.txt.length : Int))) _ _
    refine ⟨small_sz (by omega), ifB_dec (fun h2 => z (.inr fun e => ?_)) (fun _ => ?_)⟩
    · rw [e] at hl
      omega
    · subst hK
      walk_at "dl"
      exact q t ok dp (by omega)
theorem len_w_just (n : Nat) : ∀ ds xc R, sp_w_just n ds xc R → ds.length = 2 := by
  rintro ds xc R ⟨k, rfl, _⟩
  rfl
theorem no_w_just : ∀ ds xc R, ¬ sp_w_just 0 ds xc R := by
  rintro ds xc R ⟨k, rfl, h, h2, _⟩
  have : (2 : Int) ^ 0 = 1 := rfl
  omega
theorem pure_w_just (n : Nat) : ∀ ds xc R, sp_w_just (n + 1) ds xc R → d_w_just n X0 { nx := fun _ => R (.dat .non), rt := R } (args N_w_just ds) := by
  rintro ds xc R ⟨m, rfl, m0, m1, q⟩
  show d_w_just n X0 _ [some (.dat .drawl), some (.dat (.int m)), none, none]
  unfold d_w_just
  have e2 : (2 : Int) ^ (n + 1) = 2 ^ n * 2 := Int.pow_succ 2 n
  refine seq_k fun K hK => ?_; walk_at "dl"
  refine ⟨⟨rfl, rfl⟩, ?_⟩
  rw [eqd_int]
  refine ifB_dec (fun h1 => ?_) (fun h1 => ?_)
  · subst h1
    refine ⟨sz rfl, sz rfl, sz rfl, sz rfl, sz rfl, sz rfl, trivial, _, [(Tm.num 7).d, (Tm.tru true).d, (Tm.nam "x").d, (Tm.gap "xs").d, Tm.non.d], rfl, .inl rfl, by show 0 < 5; decide, by show 5 < 100000; decide, fun d hd => ?_⟩
    simp only [List.mem_cons, List.not_mem_nil, or_false] at hd
    have one : ∀ t : Tm, t.deep = 1 → t.deep ≤ n + 1 := fun t h => by omega
    rcases hd with rfl | rfl | rfl | rfl | rfl
    · exact q (.num 7) (by show (7 : Nat) < _; decide) (one _ rfl) rfl
    · exact q (.tru true) trivial (one _ rfl) rfl
    · exact q (.nam "x") (by show nameS "x" = true; decide +kernel) (one _ rfl) rfl
    · exact q (.gap "xs") (by show nameS "xs" = true; decide +kernel) (one _ rfl) rfl
    · exact q .non trivial (one _ rfl) rfl
  subst hK
  refine seq_k fun K hK => ?_; walk_at "dl"
  refine ⟨⟨rfl, rfl⟩, ?_⟩
  rw [eqd_int]
  have n1 : 1 ≤ n := by
    cases n with
    | zero =>
      have : (2 : Int) ^ (0 + 1) = 2 := rfl
      omega
    | succ n => omega
  refine ifB_dec (fun h2 => ?_) (fun h2 => ?_)
  · subst h2
    refine ⟨sz rfl, trivial, _, Tm.W1L, rfl, .inl rfl, by decide, by decide, fun d hd => ?_⟩
    obtain ⟨w, hw, rfl⟩ := mem_str hd
    walk_at "dl"
    refine ⟨sz rfl, sz rfl, q (.t1 w (.num (-12))) ⟨hw, by show (12 : Nat) < _; decide⟩ ?_ rfl⟩
    show 1 + 1 ≤ _
    omega
  subst hK
  refine seq_k fun K hK => ?_; walk_at "dl"
  refine ⟨divOk (by decide) (by decide), ?_⟩
  have d1 : 1 ≤ (m - 1) / 2 := by omega
  have d2 : (m - 1) / 2 < 2 ^ n := by omega
  have d3 : 1 ≤ m - 1 - (m - 1) / 2 := by omega
  have d4 : m - 1 - (m - 1) / 2 < 2 ^ n := by omega
  generalize (m - 1) / 2 = h at d1 d2 d3 d4
  subst hK
  refine seq_k fun K hK => ?_; walk_at "dl"
  refine ⟨sz rfl, trivial, _, Tm.W2L, rfl, .inl rfl, by decide, by decide, fun d hd => ?_⟩
  obtain ⟨w, hw, rfl⟩ := mem_str hd
  subst hK
  walk_at "dl"
  refine ⟨h, rfl, d1, d2, fun a aok adp am => ?_⟩
  walk_at "dl"
  refine ⟨m - 1 - h, rfl, d3, d4, fun b bok bdp bm => ⟨sz rfl, q (.t2 w a b) ⟨W2J_W2 hw, aok, bok⟩ ?_ ?_⟩⟩
  · show max a.deep b.deep + 1 ≤ _
    omega
  · show ((a.many + b.many + 1 : Nat) : Int) = m
    omega
theorem len_w_chain : ∀ ds xc R, sp_w_chain ds xc R → ds.length = 2 := by
  rintro ds xc R ⟨rfl, _⟩
  rfl
theorem pure_w_chain : ∀ ds xc R, sp_w_chain ds xc R → d_w_chain X0 { nx := fun _ => R (.dat .non), rt := R } (args N_w_chain ds) := by
  rintro ds xc R ⟨rfl, q⟩
  show d_w_chain X0 _ [some (.dat .drawl), some (.dat (.int 40)), none, none, none]
  unfold d_w_chain
  refine seq_k fun K hK => ?_; walk_at "dl"
  refine ⟨rfl, fun t ok dp => ?_⟩
  subst hK
  refine seq_k fun K hK => ?_; walk_at "dl"
  have m1 : t.many = 1 := Tm.many_one dp
  refine ⟨⟨by decide, by decide⟩, fun i r => ∃ (t : Tm) (x3 x4 : Option Val), r = [some (.dat .drawl), some (.dat (.int 40)), some (.dat t.d), x3, x4] ∧ t.ok ∧ t.deep ≤ 1 + i ∧ t.many ≤ 1 + i, ⟨t, _, _, rfl, ok, by omega, by omega⟩, ?_, ?_⟩
  · rintro i x r hx ⟨t, x3, x4, rfl, ok, dp, mn⟩
    obtain ⟨rfl, hlt⟩ := rng_get hx
    refine gN_mk ?_
    refine seq_k fun K hK => ?_; walk_at "dl"
    refine ⟨sz rfl, trivial, _, (["first", "second", "fun"] : List Str).map D.str, rfl, .inl rfl, by decide, by decide, fun d hd => ?_⟩
    obtain ⟨w, hw, rfl⟩ := mem_str hd
    have hwo : okS w := by
      simp only [List.mem_cons, List.not_mem_nil, or_false] at hw
      rcases hw with rfl | rfl | rfl <;> (unfold okS; decide)
    subst hK
    walk_at "dl"
    refine ⟨sz rfl, sz rfl, sz rfl, ⟨eqOk_str hwo, eqOk_str (by unfold okS; decide)⟩, pick_if (fun h => ?_) (fun h => ?_)⟩
    · rw [show eqd (.str w) (.str "fun") = decide (w = "fun") from eqd_str _ _] at h
      have h := of_decide_eq_true h
      subst h
      refine ⟨.fn "x" t, _, _, rfl, ⟨by decide +kernel, ok⟩, ?_, ?_⟩
      · show t.deep + 1 ≤ _
        omega
      · show t.many + 1 ≤ _
        omega
    · rw [show eqd (.str w) (.str "fun") = decide (w = "fun") from eqd_str _ _] at h
      have h := of_decide_eq_false h
      have hw1 : w ∈ W1 := by
        simp only [List.mem_cons, List.not_mem_nil, or_false] at hw
        rcases hw with rfl | rfl | rfl
        · simp [W1]
        · simp [W1]
        · exact absurd rfl h
      refine ⟨.t1 w t, _, _, rfl, ⟨hw1, ok⟩, ?_, ?_⟩
      · show t.deep + 1 ≤ _
        omega
      · show t.many + 1 ≤ _
        omega
  · rintro r ⟨t, x3, x4, rfl, ok, dp, mn⟩
    rw [rng_length] at dp mn
    have e39 : ((40 : Int) - 1).toNat = 39 := rfl
    rw [e39] at dp mn
    dsimp only
    subst hK
    walk_at "dl"
    exact q t ok (by omega) (by omega)
theorem len_term_text : ∀ ds xc R, sp_term_text ds xc R → ds.length = 1 := by
  rintro ds xc R ⟨t, rfl, _⟩
  rfl
theorem pure_term_text : ∀ ds xc R, sp_term_text ds xc R → d_term_text X0 { nx := fun _ => R (.dat .non), rt := R } (args N_term_text ds) := by
  rintro ds xc R ⟨t, rfl, ok, dp, mn, q⟩
  show d_term_text X0 _ [some (.dat t.d)]
  unfold d_term_text
  refine seq_k fun K hK => ?_; walk_at "dl"
  refine ⟨t.d, rfl, Tm.okT_d ok, ?_⟩
  walk_at "dl"
  rw [Tm.size_d ok dp]
  have e : decide (0 ≤ lefts (some t.many) 200) = true := by
    show decide (0 ≤ (if (t.many : Int) ≤ 200 then (200 : Int) - t.many else -1)) = true
    rw [if_pos (by omega)]
    exact decide_eq_true (by omega)
  rw [e]
  refine ifB_F rfl ?_
  subst hK
  walk_at "dl"
  have wl := t.wds_len
  refine ⟨t, rfl, ok, by omega, by omega, ?_⟩
  walk_at "dl"
  refine onO_of (strsOf_map (fun s => s) t.wds) ?_
  rw [List.map_id']
  exact ⟨Tm.join_ok ok (by omega), q⟩
theorem len_law : ∀ ds xc R, sp_law ds xc R → ds.length = 1 := by
  rintro ds xc R ⟨ns, rfl, _⟩
  rfl
/-- a term that was told -/
def Fits (t : Tm) : Prop := t.ok ∧ t.deep ≤ 40 ∧ t.many ≤ 200
def told (t : Tm) : D := .tup [t.d, .str t.txt]
theorem txt_eqOk {t : Tm} (h : t.ok) : eqOk (.str t.txt) = true := eqOk_str (Tm.txt_ok h)
theorem pure_law : ∀ ds xc R, sp_law ds xc R → d_law X0 { nx := fun _ => R (.dat .non), rt := R } (args N_law ds) := by
  rintro ds xc R ⟨ns, rfl, hl, q⟩
  show d_law X0 _ [some (.dat (.scr ns)), none, none, none, none, none, none, none]
  unfold d_law
  refine seq_k fun K hK => ?_; walk_at "dl"
  refine ⟨sz rfl, ?_⟩
  subst hK
  refine seq_k fun K hK => ?_; walk_at "dl"
  have hb : (if (if (ns.length : Int) < 40 then (ns.length : Int) else 40) > 1 then (if (ns.length : Int) < 40 then (ns.length : Int) else 40) else 1).toNat ≤ 40 := by split <;> split <;> omega
  refine ⟨by split <;> split <;> omega, ?_⟩
  generalize (if (if (ns.length : Int) < 40 then (ns.length : Int) else 40) > 1 then (if (ns.length : Int) < 40 then (ns.length : Int) else 40) else 1).toNat = tn at hb
  refine ⟨fun i r => ∃ (ts : List Tm) (x2 x3 x4 x5 x6 x7 : Option Val), r = [some (.dat (.scr ns)), some (.tmp (.lst (ts.map told))), x2, x3, x4, x5, x6, x7] ∧ ts.length ≤ 3 * i ∧ ∀ t ∈ ts, Fits t, ⟨[], _, _, _, _, _, _, rfl, Nat.le_refl _, fun t h => (nomatch h)⟩, ?_, ?_⟩
  · rintro i x r hx ⟨ts, x2, x3, x4, x5, x6, x7, rfl, hlen, hts⟩
    obtain ⟨rfl, hlt⟩ := rng_get hx
    refine gN_mk ?_
    refine seq_k fun K hK => ?_; walk_at "dl"
    refine ⟨ns, _, rfl, by omega, ?_⟩
    subst hK
    refine seq_k fun K hK => ?_; walk_at "dl"
    refine ⟨rfl, fun t ok dp mn => ⟨sz rfl, ?_⟩⟩
    subst hK
    refine seq_k fun K hK => ?_; walk_at "dl"
    refine ⟨4, rfl, by decide, by decide, fun a _ _ => ?_⟩
    walk_at "dl"
    have inner : ∀ us : List Tm, us.length ≤ 3 → (∀ t ∈ us, Fits t) → K [some (.dat (.scr ns)), some (.tmp (.lst (ts.map told))), some (.dat (.int (0 + (i : Int)))), some (.dat .drawl), some (.tmp (.lst (us.map Tm.d))), x5, x6, x7] := by
      intro us hu3 hus
      subst hK
      walk_at "dl"
      refine ⟨trivial, fun j r => ∃ (x5 x6 x7 : Option Val), r = [some (.dat (.scr ns)), some (.tmp (.lst ((ts ++ us.take j).map told))), some (.dat (.int (0 + (i : Int)))), some (.dat .drawl), some (.dat (.lst (us.map Tm.d))), x5, x6, x7], ⟨_, _, _, by rw [List.take_zero, List.append_nil]⟩, ?_, ?_⟩
      · rintro j x r hx ⟨x5, x6, x7, rfl⟩
        rw [List.getElem?_map] at hx
        obtain ⟨u, hu, rfl⟩ := Option.map_eq_some_iff.mp hx
        obtain ⟨uok, udp, umn⟩ := hus u (List.mem_of_getElem? hu)
        have wl := u.wds_len
        refine gN_mk ?_
        refine seq_k fun K hK => ?_; walk_at "dl"
        refine ⟨u, rfl, uok, by omega, by omega, ?_⟩
        walk_at "dl"
        refine onO_of (strsOf_map (fun s => s) u.wds) ?_
        rw [List.map_id']
        refine ⟨Tm.join_ok uok (by omega), ?_⟩
        subst hK
        refine seq_k fun K hK => ?_; walk_at "dl"
        refine ⟨u, rfl, uok, udp, umn, ?_⟩
        subst hK
        refine seq_k fun K hK => ?_; walk_at "dl"
        refine ⟨rfl, ⟨txt_eqOk uok, txt_eqOk uok⟩, ?_⟩
        rw [eqd_str, decide_eq_true (show u.txt = Txt.join " " u.wds from rfl)]
        refine ifB_F rfl ?_
        subst hK
        walk_at "dl"
        refine ⟨sz rfl, ?_, some (.dat u.d), some (.dat (.str u.txt)), some (.dat (.str u.txt)), ?_⟩
        · rw [List.length_map, List.length_append, List.length_take]
          exact small_lt (by omega)
        · rw [Tm.take_snoc hu, ← List.append_assoc, List.map_append (l₁ := ts ++ us.take j)]
          rfl
      · rintro r ⟨x5, x6, x7, rfl⟩
        rw [List.length_map, List.take_length]
        refine ⟨ts ++ us, _, _, _, _, _, _, rfl, by rw [List.length_append]; omega, fun t ht => ?_⟩
        rcases List.mem_append.mp ht with h | h
        · exact hts t h
        · exact hus t h
    have ft : Fits t := ⟨ok, by omega, mn⟩
    refine ⟨⟨rfl, rfl⟩, ifB_of (fun _ => ?_) (fun _ => inner [t] (Nat.le_of_ble_eq_true rfl) fun u hu => by rw [List.mem_singleton.mp hu]; exact ft)⟩
    refine ⟨200, rfl, by decide, by decide, fun b bok bdp bmn => ?_⟩
    walk_at "dl"
    refine ⟨rfl, fun c cok cdp cmn => ?_⟩
    walk_at "dl"
    refine ⟨sz rfl, sz rfl, inner [t, b, c] (Nat.le_of_ble_eq_true rfl) fun u hu => ?_⟩
    simp only [List.mem_cons, List.not_mem_nil, or_false] at hu
    rcases hu with rfl | rfl | rfl
    · exact ft
    · exact ⟨bok, by omega, by omega⟩
    · exact ⟨cok, cdp, by omega⟩
  · rintro r ⟨ts, x2, x3, x4, x5, x6, x7, rfl, hlen, hts⟩
    rw [rng_length] at hlen
    dsimp only
    subst hK
    walk_at "dl"
    refine ⟨trivial, lc_filter (fun _ => false) (fun d => d) (by rw [List.length_map]; omega) (fun x hx Rt Rf ht hf => ?_) ?_⟩
    · obtain ⟨t, hm, rfl⟩ := mem_str hx
      obtain ⟨ok, dp, mn⟩ := hts t hm
      refine gT2_mk ?_
      walk_at "dl"
      refine ⟨t, rfl, ok, dp, mn, ⟨txt_eqOk ok, txt_eqOk ok⟩, ?_⟩
      rw [show eqd (Val.dat (D.str t.txt)).d (D.str t.txt) = true from by rw [show (Val.dat (D.str t.txt)).d = D.str t.txt from rfl, eqd_str]; exact decide_eq_true rfl]
      exact ifB_F rfl (hf rfl)
    · have e : ((ts.map told).filter fun _ => false) = [] := by rw [List.filter_eq_nil_iff]; exact fun _ _ h => nomatch h
      rw [e]
      exact ⟨sz rfl, q⟩
theorem law_pre {ns : List Int} (h : ns.length ≤ 63) : sp_law [.scr ns] (fun _ => False) (fun v => v = .dat (.bl true)) := ⟨ns, rfl, h, rfl⟩
/-! ### the text -/
def topS (i : Nat) : Stmt := PySem.Challenge.pw_gaprun_k10_terms_written.main.body.getD i (.Pass ⟨0, 0, 0, 0⟩)
abbrev s_is_name : Stmt := topS 10
theorem sc_is_name : FnScope N_is_name ["thing"] (defScope s_is_name) := ⟨rfl, rfl, rfl, by decide +kernel, rfl, by decide +kernel, by decide +kernel⟩
abbrev s_is_single : Stmt := topS 11
theorem sc_is_single : FnScope N_is_single ["sign", "thing"] (defScope s_is_single) := ⟨rfl, rfl, rfl, by decide +kernel, rfl, by decide +kernel, by decide +kernel⟩
abbrev s_left_behind : Stmt := topS 12
theorem sc_left_behind : FnScope N_left_behind ["thing", "left", "levels"] (defScope s_left_behind) := ⟨rfl, rfl, rfl, by decide +kernel, rfl, by decide +kernel, by decide +kernel⟩
abbrev s_is_term : Stmt := topS 13
theorem sc_is_term : FnScope N_is_term ["thing"] (defScope s_is_term) := ⟨rfl, rfl, rfl, by decide +kernel, rfl, by decide +kernel, by decide +kernel⟩
abbrev s_words_of_term : Stmt := topS 15
theorem sc_words_of_term : FnScope N_words_of_term ["term"] (defScope s_words_of_term) := ⟨rfl, rfl, rfl, by decide +kernel, rfl, by decide +kernel, by decide +kernel⟩
abbrev s_term_text : Stmt := topS 16
theorem sc_term_text : FnScope N_term_text ["term"] (defScope s_term_text) := ⟨rfl, rfl, rfl, by decide +kernel, rfl, by decide +kernel, by decide +kernel⟩
abbrev s_w_mixed : Stmt := topS 18
theorem sc_w_mixed : FnScope N_w_mixed ["_law_cell", "_law_k"] (defScope s_w_mixed) := ⟨rfl, rfl, rfl, by decide +kernel, rfl, by decide +kernel, by decide +kernel⟩
abbrev s_w_draw : Stmt := topS 19
theorem sc_w_draw : FnScope N_w_draw ["_law_script", "_law_k"] (defScope s_w_draw) := ⟨rfl, rfl, rfl, by decide +kernel, rfl, by decide +kernel, by decide +kernel⟩
abbrev s_w_next : Stmt := topS 20
theorem sc_w_next : FnScope N_w_next ["_law_draw_here", "_law_size_here"] (defScope s_w_next) := ⟨rfl, rfl, rfl, by decide +kernel, rfl, by decide +kernel, by decide +kernel⟩
abbrev s_w_pick : Stmt := topS 21
theorem sc_w_pick : FnScope N_w_pick ["_law_draw_here", "_law_some"] (defScope s_w_pick) := ⟨rfl, rfl, rfl, by decide +kernel, rfl, by decide +kernel, by decide +kernel⟩
abbrev s_w_kept : Stmt := topS 22
theorem sc_w_kept : FnScope N_w_kept [] (defScope s_w_kept) := ⟨rfl, rfl, rfl, by decide +kernel, rfl, by decide +kernel, by decide +kernel⟩
abbrev s_w_name : Stmt := topS 23
theorem sc_w_name : FnScope N_w_name ["_law_draw_here"] (defScope s_w_name) := ⟨rfl, rfl, rfl, by decide +kernel, rfl, by decide +kernel, by decide +kernel⟩
abbrev s_w_number : Stmt := topS 24
theorem sc_w_number : FnScope N_w_number ["_law_draw_here"] (defScope s_w_number) := ⟨rfl, rfl, rfl, by decide +kernel, rfl, by decide +kernel, by decide +kernel⟩
abbrev s_w_leaf : Stmt := topS 25
theorem sc_w_leaf : FnScope N_w_leaf ["_law_draw_here"] (defScope s_w_leaf) := ⟨rfl, rfl, rfl, by decide +kernel, rfl, by decide +kernel, by decide +kernel⟩
abbrev s_w_term : Stmt := topS 26
theorem sc_w_term : FnScope N_w_term ["_law_draw_here", "_law_deep"] (defScope s_w_term) := ⟨rfl, rfl, rfl, by decide +kernel, rfl, by decide +kernel, by decide +kernel⟩
abbrev s_w_size : Stmt := topS 27
theorem sc_w_size : FnScope N_w_size ["_law_term_here"] (defScope s_w_size) := ⟨rfl, rfl, rfl, by decide +kernel, rfl, by decide +kernel, by decide +kernel⟩
abbrev s_w_words : Stmt := topS 31
theorem sc_w_words : FnScope N_w_words ["_law_term_here"] (defScope s_w_words) := ⟨rfl, rfl, rfl, by decide +kernel, rfl, by decide +kernel, by decide +kernel⟩
abbrev s_w_fit : Stmt := topS 28
theorem sc_w_fit : FnScope N_w_fit ["_law_draw_here", "_law_deep"] (defScope s_w_fit) := ⟨rfl, rfl, rfl, by decide +kernel, rfl, by decide +kernel, by decide +kernel⟩
abbrev s_w_just : Stmt := topS 29
theorem sc_w_just : FnScope N_w_just ["_law_draw_here", "_law_many"] (defScope s_w_just) := ⟨rfl, rfl, rfl, by decide +kernel, rfl, by decide +kernel, by decide +kernel⟩
abbrev s_w_chain : Stmt := topS 30
theorem sc_w_chain : FnScope N_w_chain ["_law_draw_here", "_law_deep"] (defScope s_w_chain) := ⟨rfl, rfl, rfl, by decide +kernel, rfl, by decide +kernel, by decide +kernel⟩
abbrev s_law : Stmt := topS 32
theorem sc_law : FnScope N_law ["_law_script"] (defScope s_law) := ⟨rfl, rfl, rfl, by decide +kernel, rfl, by decide +kernel, by decide +kernel⟩
theorem bt_all : bootBuiltins "all" = some (.builtin "all") := by decide +kernel
theorem bt_int : bootBuiltins "int" = some (.type "int") := by decide +kernel
theorem bt_len : bootBuiltins "len" = some (.builtin "len") := by decide +kernel
theorem bt_max : bootBuiltins "max" = some (.builtin "max") := by decide +kernel
theorem bt_min : bootBuiltins "min" = some (.builtin "min") := by decide +kernel
theorem bt_str : bootBuiltins "str" = some (.type "str") := by decide +kernel
theorem bt_tuple : bootBuiltins "tuple" = some (.type "tuple") := by decide +kernel
structure Txt (w : World) (K : PySem.W.Frag) (mg : Str → Option Value) where
  f_is_name : Addr
  fd_is_name : FuncData
  F_is_name : Fun K "is_name" "is_name" s_is_name f_is_name fd_is_name
  g_is_name : mg "is_name" = some (.ref f_is_name)
  b_is_name : Binds K fd_is_name ["thing"] []
  f_is_single : Addr
  fd_is_single : FuncData
  F_is_single : Fun K "is_single" "is_single" s_is_single f_is_single fd_is_single
  g_is_single : mg "is_single" = some (.ref f_is_single)
  b_is_single : Binds K fd_is_single ["sign", "thing"] []
  f_left_behind : Addr
  fd_left_behind : FuncData
  F_left_behind : Fun K "left_behind" "left_behind" s_left_behind f_left_behind fd_left_behind
  g_left_behind : mg "left_behind" = some (.ref f_left_behind)
  b_left_behind : Binds K fd_left_behind ["thing", "left", "levels"] []
  f_is_term : Addr
  fd_is_term : FuncData
  F_is_term : Fun K "is_term" "is_term" s_is_term f_is_term fd_is_term
  g_is_term : mg "is_term" = some (.ref f_is_term)
  b_is_term : Binds K fd_is_term ["thing"] []
  f_words_of_term : Addr
  fd_words_of_term : FuncData
  F_words_of_term : Fun K "words_of_term" "words_of_term" s_words_of_term f_words_of_term fd_words_of_term
  g_words_of_term : mg "words_of_term" = some (.ref f_words_of_term)
  b_words_of_term : Binds K fd_words_of_term ["term"] []
  f_term_text : Addr
  fd_term_text : FuncData
  F_term_text : Fun K "term_text" "term_text" s_term_text f_term_text fd_term_text
  g_term_text : mg "term_text" = some (.ref f_term_text)
  b_term_text : Binds K fd_term_text ["term"] []
  f_w_mixed : Addr
  fd_w_mixed : FuncData
  F_w_mixed : Fun K "_law_mixed" "_law_mixed" s_w_mixed f_w_mixed fd_w_mixed
  g_w_mixed : mg "_law_mixed" = some (.ref f_w_mixed)
  b_w_mixed : Binds K fd_w_mixed ["_law_cell", "_law_k"] []
  f_w_draw : Addr
  fd_w_draw : FuncData
  F_w_draw : Fun K "_law_draw" "_law_draw" s_w_draw f_w_draw fd_w_draw
  g_w_draw : mg "_law_draw" = some (.ref f_w_draw)
  b_w_draw : Binds K fd_w_draw ["_law_script", "_law_k"] []
  f_w_next : Addr
  fd_w_next : FuncData
  F_w_next : Fun K "_law_next" "_law_next" s_w_next f_w_next fd_w_next
  g_w_next : mg "_law_next" = some (.ref f_w_next)
  b_w_next : Binds K fd_w_next ["_law_draw_here", "_law_size_here"] []
  f_w_pick : Addr
  fd_w_pick : FuncData
  F_w_pick : Fun K "_law_pick" "_law_pick" s_w_pick f_w_pick fd_w_pick
  g_w_pick : mg "_law_pick" = some (.ref f_w_pick)
  b_w_pick : Binds K fd_w_pick ["_law_draw_here", "_law_some"] []
  f_w_kept : Addr
  fd_w_kept : FuncData
  F_w_kept : Fun K "_law_kept" "_law_kept" s_w_kept f_w_kept fd_w_kept
  g_w_kept : mg "_law_kept" = some (.ref f_w_kept)
  b_w_kept : Binds K fd_w_kept [] []
  f_w_name : Addr
  fd_w_name : FuncData
  F_w_name : Fun K "_law_name" "_law_name" s_w_name f_w_name fd_w_name
  g_w_name : mg "_law_name" = some (.ref f_w_name)
  b_w_name : Binds K fd_w_name ["_law_draw_here"] []
  f_w_number : Addr
  fd_w_number : FuncData
  F_w_number : Fun K "_law_number" "_law_number" s_w_number f_w_number fd_w_number
  g_w_number : mg "_law_number" = some (.ref f_w_number)
  b_w_number : Binds K fd_w_number ["_law_draw_here"] []
  f_w_leaf : Addr
  fd_w_leaf : FuncData
  F_w_leaf : Fun K "_law_leaf" "_law_leaf" s_w_leaf f_w_leaf fd_w_leaf
  g_w_leaf : mg "_law_leaf" = some (.ref f_w_leaf)
  b_w_leaf : Binds K fd_w_leaf ["_law_draw_here"] []
  f_w_term : Addr
  fd_w_term : FuncData
  F_w_term : Fun K "_law_term" "_law_term" s_w_term f_w_term fd_w_term
  g_w_term : mg "_law_term" = some (.ref f_w_term)
  b_w_term : Binds K fd_w_term ["_law_draw_here", "_law_deep"] []
  f_w_size : Addr
  fd_w_size : FuncData
  F_w_size : Fun K "_law_size" "_law_size" s_w_size f_w_size fd_w_size
  g_w_size : mg "_law_size" = some (.ref f_w_size)
  b_w_size : Binds K fd_w_size ["_law_term_here"] []
  f_w_words : Addr
  fd_w_words : FuncData
  F_w_words : Fun K "_law_words" "_law_words" s_w_words f_w_words fd_w_words
  g_w_words : mg "_law_words" = some (.ref f_w_words)
  b_w_words : Binds K fd_w_words ["_law_term_here"] []
  f_w_fit : Addr
  fd_w_fit : FuncData
  F_w_fit : Fun K "_law_fit" "_law_fit" s_w_fit f_w_fit fd_w_fit
  g_w_fit : mg "_law_fit" = some (.ref f_w_fit)
  b_w_fit : Binds K fd_w_fit ["_law_draw_here", "_law_deep"] []
  f_w_just : Addr
  fd_w_just : FuncData
  F_w_just : Fun K "_law_just" "_law_just" s_w_just f_w_just fd_w_just
  g_w_just : mg "_law_just" = some (.ref f_w_just)
  b_w_just : Binds K fd_w_just ["_law_draw_here", "_law_many"] []
  f_w_chain : Addr
  fd_w_chain : FuncData
  F_w_chain : Fun K "_law_chain" "_law_chain" s_w_chain f_w_chain fd_w_chain
  g_w_chain : mg "_law_chain" = some (.ref f_w_chain)
  b_w_chain : Binds K fd_w_chain ["_law_draw_here", "_law_deep"] []
  f_law : Addr
  fd_law : FuncData
  F_law : Fun K "law" "law" s_law f_law fd_law
  g_law : mg "law" = some (.ref f_law)
  b_law : Binds K fd_law ["_law_script"] []
  z_all : mg "all" = none
  z_bool : mg "bool" = none
  z_int : mg "int" = none
  z_isinstance : mg "isinstance" = none
  z_len : mg "len" = none
  z_max : mg "max" = none
  z_min : mg "min" = none
  z_range : mg "range" = none
  z_str : mg "str" = none
  z_tuple : mg "tuple" = none
  z_zip : mg "zip" = none
  u_KEPT : Value
  v_KEPT : V
  g_KEPT : mg "KEPT" = some u_KEPT ∧ RelV v_KEPT u_KEPT ∧ ∀ B, Rep K B v_KEPT g_KEPT
  u_LETTERS : Value
  v_LETTERS : V
  g_LETTERS : mg "LETTERS" = some u_LETTERS ∧ RelV v_LETTERS u_LETTERS ∧ ∀ B, Rep K B v_LETTERS g_LETTERS
  u_MOST_DEEP : Value
  v_MOST_DEEP : V
  g_MOST_DEEP : mg "MOST_DEEP" = some u_MOST_DEEP ∧ RelV v_MOST_DEEP u_MOST_DEEP ∧ ∀ B, Rep K B v_MOST_DEEP g_MOST_DEEP
  u_MOST_LETTERS : Value
  v_MOST_LETTERS : V
  g_MOST_LETTERS : mg "MOST_LETTERS" = some u_MOST_LETTERS ∧ RelV v_MOST_LETTERS u_MOST_LETTERS ∧ ∀ B, Rep K B v_MOST_LETTERS g_MOST_LETTERS
  u_MOST_PARTS : Value
  v_MOST_PARTS : V
  g_MOST_PARTS : mg "MOST_PARTS" = some u_MOST_PARTS ∧ RelV v_MOST_PARTS u_MOST_PARTS ∧ ∀ B, Rep K B v_MOST_PARTS g_MOST_PARTS
  a_SIGNS : Addr
  g_SIGNS : mg "SIGNS" = some (.ref a_SIGNS)
  k_SIGNS : KTab K w a_SIGNS tab_SIGNS
section
variable {P : Program} {w : World} {K : PySem.W.Frag} {mg : Str → Option Value} {base : Heap}
theorem ok_is_name (T : Txt w K mg) : FnOk P w K mg base CX0 1 T.f_is_name T.fd_is_name ["thing"] (spD K sp_is_name) :=
  fn_d T.F_is_name sc_is_name len_is_name (fun cdv A outer s H hr => (qss_cons (qs_if (PW.pt (qw_or (q_not (q_test (q_isi .str (by rfl) T.z_isinstance (by rfl) T.z_str (by decide +kernel) (q_var 0)))) (qw_or (q_not (qt_le_le q_int (q_b1 rel_len call_len (by rfl) T.z_len bt_len (q_var 0)) (q_glob (by rfl) T.g_MOST_LETTERS.1 T.g_MOST_LETTERS.2.1 T.g_MOST_LETTERS.2.2))) (pw_or1 (qt_in (q_var 0) (q_glob (by rfl) T.g_KEPT.1 T.g_KEPT.2.1 T.g_KEPT.2.2))))))
  (qss_one (qs_ret q_bl))
  qss_nil)
  (qss_one (qs_ret (q_b1 rel_all (cr_all rfl) (by rfl) T.z_all bt_all (q_lc (own := [("sign", 1)]) rfl sc_is_name.nd (qi_any (q_varM 0)) (blkOk_by (own := [("sign", 1)]) (N := N_is_name) (sc := defScope s_is_name) (by decide +kernel)) (fun _ _ _ _ _ => (qg_name (i := 1) (vs := [1]) (by decide) sc_is_name.nd rfl (by first | exact Or.inl rfl | exact Or.inr rfl))) (fun _ _ _ _ _ => qts_nil) (fun _ _ _ _ _ => (q_in (q_var 1) (q_glob (by rfl) T.g_LETTERS.1 T.g_LETTERS.2.1 T.g_LETTERS.2.2))))))))) pure_is_name
theorem ok_is_single (T : Txt w K mg) : FnOk P w K mg base CX0 2 T.f_is_single T.fd_is_single ["sign", "thing"] (spD K sp_is_single) :=
  fn_d T.F_is_single sc_is_single len_is_single (fun cdv A outer s H hr => (qss_cons (qs_if (qt_eq (q_var 0) q_str hr.units)
  (qss_one (qs_ret (q_call (ok_is_name T) (hr.mono (by decide)) (by rfl) T.g_is_name T.F_is_name.kp T.b_is_name (qa_cons (q_varM 1) qa_nil))))
  qss_nil)
  (qss_one (qs_ret (q_andV (q_isi .int (by rfl) T.z_isinstance (by rfl) T.z_int (by decide +kernel) (q_var 1)) (q_one (q_eq hr.units (q_isi .bool (by rfl) T.z_isinstance (by rfl) T.z_bool (by decide +kernel) (q_var 1)) (q_eq hr.units (q_var 0) q_str)))))))) pure_is_single
theorem ok_left_behind (T : Txt w K mg) : ∀ n : Nat, FnOk P w K mg base CX0 (n + 2) T.f_left_behind T.fd_left_behind ["thing", "left", "levels"] (spD K (sp_left_behind n))
  | 0 => fn_no no_left_behind
  | n + 1 => by
    have ih := ok_left_behind T n
    have h : FnOk P w K mg base CX0 ((n + 2) + 1) T.f_left_behind T.fd_left_behind ["thing", "left", "levels"] (spD K (sp_left_behind (n + 1))) := fn_d T.F_left_behind sc_left_behind (len_left_behind (n + 1)) (fun cdv A outer s H hr => (qss_cons (qs_if (PW.pt (qw_or (qt_lt (q_var 1) q_int) (qw_or (qt_lt (q_var 2) q_int) (qw_or (q_not (q_test (q_isi .tuple (by rfl) T.z_isinstance (by rfl) T.z_tuple (by decide +kernel) (q_var 0)))) (qw_or (qt_eqE hr.units (q_var 0) (q_tup qa_nil)) (pw_or1 (q_not (q_test (q_isi .str (by rfl) T.z_isinstance (by rfl) T.z_str (by decide +kernel) (q_sub1 (q_var 0) q_int))))))))))
  (qss_one (qs_ret (q_neg q_int)))
  qss_nil)
  (qss_cons (qs_set (i := 3) sc_left_behind.nd rfl (by first | exact Or.inl rfl | exact Or.inr rfl) (q_kget T.k_SIGNS (by rfl) T.g_SIGNS (q_sub1 (q_var 0) q_int) q_non m2_of))
  (qss_cons (qs_if (PW.pt (qw_or (qt_is (q_var 3) q_non) (pw_or1 (qt_ne (q_b1 rel_len call_len (by rfl) T.z_len bt_len (q_var 0)) (q_add (q_b1 rel_len call_len (by rfl) T.z_len bt_len (q_var 3)) q_int) hr.units))))
  (qss_one (qs_ret (q_neg q_int)))
  qss_nil)
  (qss_cons (qs_set (i := 1) sc_left_behind.nd rfl (by first | exact Or.inl rfl | exact Or.inr rfl) (q_sub (q_var 1) q_int))
  (qss_cons (qs_for (vs := [4, 5]) PassesOwn.never rfl (qi_zip (by rfl) T.z_zip (qa_cons (q_varM 3) (qa_cons (q_slice (q_var 0) (qo_some q_int) qo_none) qa_nil))) (qg_t2 (vs := [4, 5]) rfl (by decide) (by decide) (pg_name (i := 4) sc_left_behind.nd rfl (by first | exact Or.inl rfl | exact Or.inr rfl)) (pg_name (i := 5) sc_left_behind.nd rfl (by first | exact Or.inl rfl | exact Or.inr rfl)))
  (qss_cons (qs_if (qt_eq (q_var 4) q_str hr.units)
  (qss_one (qs_set (i := 1) sc_left_behind.nd rfl (by first | exact Or.inl rfl | exact Or.inr rfl) (q_call ih (hr.mono (by omega)) (by rfl) T.g_left_behind T.F_left_behind.kp T.b_left_behind (qa_cons (q_varM 5) (qa_cons (q_varM 1) (qa_cons (q_sub (q_var 2) q_int) qa_nil))))))
  (qss_one (qs_if (q_not (q_test (q_call (ok_is_single T) (hr.mono (by omega)) (by rfl) T.g_is_single T.F_is_single.kp T.b_is_single (qa_cons (q_varM 4) (qa_cons (q_varM 5) qa_nil)))))
  (qss_one (qs_set (i := 1) sc_left_behind.nd rfl (by first | exact Or.inl rfl | exact Or.inr rfl) (q_neg q_int)))
  qss_nil)))
  (qss_one (qs_if (qt_lt (q_var 1) q_int)
  (qss_one (qs_ret (q_neg q_int)))
  qss_nil))))
  (qss_cons (qs_if (PW.pt (qw_and (qt_eq (q_sub1 (q_var 0) q_int) q_str hr.units) (pw_and1 (qt_eq (q_sub1 (q_var 0) q_int) (q_sub1 (q_var 0) q_int) hr.units))))
  (qss_one (qs_ret (q_neg q_int)))
  qss_nil)
  (qss_one (qs_retV 1))))))))) (pure_left_behind n)
    rw [Nat.add_right_comm]
    exact h
theorem ok_is_term (T : Txt w K mg) : FnOk P w K mg base CX0 45 T.f_is_term T.fd_is_term ["thing"] (spD K sp_is_term) :=
  fn_d T.F_is_term sc_is_term len_is_term (fun cdv A outer s H hr => (qss_one (qs_ret (q_ge (q_call (ok_left_behind T 41) (hr.mono (by decide)) (by rfl) T.g_left_behind T.F_left_behind.kp T.b_left_behind (qa_cons (q_varM 0) (qa_cons (q_glob (by rfl) T.g_MOST_PARTS.1 T.g_MOST_PARTS.2.1 T.g_MOST_PARTS.2.2) (qa_cons (q_glob (by rfl) T.g_MOST_DEEP.1 T.g_MOST_DEEP.2.1 T.g_MOST_DEEP.2.2) qa_nil)))) q_int)))) pure_is_term
theorem ok_words_of_term (T : Txt w K mg) : ∀ n : Nat, FnOk P w K mg base CX0 (n + 0) T.f_words_of_term T.fd_words_of_term ["term"] (spD K (sp_words_of_term n))
  | 0 => fn_no no_words_of_term
  | n + 1 => by
    have ih := ok_words_of_term T n
    have h : FnOk P w K mg base CX0 ((n + 0) + 1) T.f_words_of_term T.fd_words_of_term ["term"] (spD K (sp_words_of_term (n + 1))) := fn_d T.F_words_of_term sc_words_of_term (len_words_of_term (n + 1)) (fun cdv A outer s H hr => (qss_cons (qs_if (qt_eq (q_sub1 (q_var 0) q_int) q_str hr.units)
  (qss_one (qs_ret (q_lst (qa_cons (q_t1 rel_str call_str_int (by rfl) T.z_str bt_str (q_sub1 (q_var 0) q_int)) qa_nil))))
  qss_nil)
  (qss_cons (qs_if (qt_eq (q_sub1 (q_var 0) q_int) q_str hr.units)
  (qss_one (qs_ret (q_lst (qa_cons (q_ifExp (q_truth (q_sub1 (q_var 0) q_int)) q_str q_str) qa_nil))))
  qss_nil)
  (qss_cons (qs_if (qt_eq (q_sub1 (q_var 0) q_int) q_str hr.units)
  (qss_one (qs_ret (q_lst (qa_cons (q_sub1 (q_var 0) q_int) qa_nil))))
  qss_nil)
  (qss_cons (qs_if (qt_eq (q_sub1 (q_var 0) q_int) q_str hr.units)
  (qss_one (qs_ret (q_lst (qa_cons (q_add q_str (q_sub1 (q_var 0) q_int)) qa_nil))))
  qss_nil)
  (qss_cons (qs_set (i := 1) sc_words_of_term.nd rfl (by first | exact Or.inl rfl | exact Or.inr rfl) (q_lst (qa_cons (q_sub1 (q_var 0) q_int) qa_nil)))
  (qss_cons (qs_for (vs := [2]) PassesOwn.never rfl (qi_any (q_slice (q_var 0) (qo_some q_int) qo_none)) (qg_name (i := 2) (vs := [2]) (by decide) sc_words_of_term.nd rfl (by first | exact Or.inl rfl | exact Or.inr rfl))
  (qss_one (qs_augL (i := 1) sc_words_of_term.nd rfl (by first | exact Or.inl rfl | exact Or.inr rfl) (q_ifExp (q_test (q_isi .tuple (by rfl) T.z_isinstance (by rfl) T.z_tuple (by decide +kernel) (q_var 2))) (q_share (q_call ih (hr.mono (by omega)) (by rfl) T.g_words_of_term T.F_words_of_term.kp T.b_words_of_term (qa_cons (q_varM 2) qa_nil))) (q_share (q_lst (qa_cons (q_varM 2) qa_nil)))))))
  (qss_one (qs_retV 1))))))))) (pure_words_of_term n)
    rw [Nat.add_right_comm]
    exact h
theorem ok_term_text (T : Txt w K mg) : FnOk P w K mg base CX0 46 T.f_term_text T.fd_term_text ["term"] (spD K sp_term_text) :=
  fn_d T.F_term_text sc_term_text len_term_text (fun cdv A outer s H hr => (qss_cons (qs_if (q_not (q_test (q_call (ok_is_term T) (hr.mono (by decide)) (by rfl) T.g_is_term T.F_is_term.kp T.b_is_term (qa_cons (q_varM 0) qa_nil))))
  (qss_one qs_never)
  qss_nil)
  (qss_one (qs_ret (q_join q_str (q_call (ok_words_of_term T 41) (hr.mono (by decide)) (by rfl) T.g_words_of_term T.F_words_of_term.kp T.b_words_of_term (qa_cons (q_varM 0) qa_nil))))))) pure_term_text
theorem ok_w_mixed (T : Txt w K mg) : FnOk P w K mg base CX0 1 T.f_w_mixed T.fd_w_mixed ["_law_cell", "_law_k"] (spD K sp_w_mixed) :=
  fn_d T.F_w_mixed sc_w_mixed len_w_mixed (fun cdv A outer s H hr => (qss_cons (qs_set (i := 2) sc_w_mixed.nd rfl (by first | exact Or.inl rfl | exact Or.inr rfl) (q_mod (q_mulS (q_add (q_add (q_mod (q_var 0) q_int) (q_mulS q_int (q_var 1))) q_int) q_int) q_int))
  (qss_one (qs_ret (q_mod (q_add (q_mulS (q_var 2) (q_var 2)) (q_mulS q_int (q_var 2))) q_int))))) pure_w_mixed
theorem ok_w_draw (T : Txt w K mg) : FnOk P w K mg base CX0 2 T.f_w_draw T.fd_w_draw ["_law_script", "_law_k"] (spD K sp_w_draw) :=
  fn_d T.F_w_draw sc_w_draw len_w_draw (fun cdv A outer s H hr => (qss_cons (qs_set (i := 2) sc_w_draw.nd rfl (by first | exact Or.inl rfl | exact Or.inr rfl) q_int)
  (qss_cons (qs_if (qt_lt (q_var 1) (q_b1 rel_len call_len (by rfl) T.z_len bt_len (q_var 0)))
  (qss_one (qs_set (i := 2) sc_w_draw.nd rfl (by first | exact Or.inl rfl | exact Or.inr rfl) (q_sub1 (q_var 0) (q_var 1))))
  qss_nil)
  (qss_one (qs_ret (q_drawl (q_lst (qa_cons (q_b2 rel_max (call_max2 rfl) (by rfl) T.z_max bt_max q_int (q_sub (q_var 2) (q_pow q_int q_int))) (qa_cons (q_call (ok_w_mixed T) (hr.mono (by decide)) (by rfl) T.g_w_mixed T.F_w_mixed.kp T.b_w_mixed (qa_cons (q_varM 2) (qa_cons (q_add q_int (q_var 1)) qa_nil))) (qa_cons q_int qa_nil)))))))))) pure_w_draw
theorem ok_w_next (T : Txt w K mg) : FnOk P w K mg base CX0 2 T.f_w_next T.fd_w_next ["_law_draw_here", "_law_size_here"] (spD K sp_w_next) :=
  fn_d T.F_w_next sc_w_next len_w_next (fun cdv A outer s H hr => (qss_cons (qs_if (qt_gt (q_drawlGet 0 (by decide) (pv 0)) q_int)
  (qss_cons (qs_set (i := 2) sc_w_next.nd rfl (by first | exact Or.inl rfl | exact Or.inr rfl) (q_mod (q_drawlGet 0 (by decide) (pv 0)) (q_var 1)))
  (qss_cons (qs_drawlPut 0 (by decide) (pv 0) (q_div (q_drawlGet 0 (by decide) (pv 0)) (q_var 1)))
  (qss_one (qs_retV 2))))
  qss_nil)
  (qss_cons (qs_drawlAug 0 (by decide) (pv 0) q_int)
  (qss_one (qs_ret (q_mod (q_div (q_call (ok_w_mixed T) (hr.mono (by decide)) (by rfl) T.g_w_mixed T.F_w_mixed.kp T.b_w_mixed (qa_cons (q_drawlGet 0 (by decide) (pv 0)) (qa_cons (q_drawlGet 0 (by decide) (pv 0)) qa_nil))) q_int) (q_var 1))))))) pure_w_next
theorem ok_w_pick (T : Txt w K mg) : FnOk P w K mg base CX0 3 T.f_w_pick T.fd_w_pick ["_law_draw_here", "_law_some"] (spD K sp_w_pick) :=
  fn_d T.F_w_pick sc_w_pick len_w_pick (fun cdv A outer s H hr => (qss_one (qs_ret (q_sub1 (q_var 1) (q_call (ok_w_next T) (hr.mono (by decide)) (by rfl) T.g_w_next T.F_w_next.kp T.b_w_next (qa_cons (q_varM 0) (qa_cons (q_b1 rel_len call_len (by rfl) T.z_len bt_len (q_var 1)) qa_nil))))))) pure_w_pick
theorem ok_w_kept (T : Txt w K mg) : FnOk P w K mg base CX0 1 T.f_w_kept T.fd_w_kept [] (spD K sp_w_kept) :=
  fn_d T.F_w_kept sc_w_kept len_w_kept (fun cdv A outer s H hr => (qss_cons (qs_set (i := 0) sc_w_kept.nd rfl (by first | exact Or.inl rfl | exact Or.inr rfl) q_str)
  (qss_one (qs_ret (q_split (q_add (q_var 0) q_str) q_str))))) pure_w_kept
theorem ok_w_name (T : Txt w K mg) : FnOk P w K mg base CX0 4 T.f_w_name T.fd_w_name ["_law_draw_here"] (spD K sp_w_name) :=
  fn_d T.F_w_name sc_w_name len_w_name (fun cdv A outer s H hr => (qss_cons (qs_set (i := 1) sc_w_name.nd rfl (by first | exact Or.inl rfl | exact Or.inr rfl) (q_call (ok_w_next T) (hr.mono (by decide)) (by rfl) T.g_w_next T.F_w_next.kp T.b_w_next (qa_cons (q_varM 0) (qa_cons q_int qa_nil))))
  (qss_cons (qs_if (qt_eq (q_var 1) q_int hr.units)
  (qss_one (qs_ret (q_call (ok_w_pick T) (hr.mono (by decide)) (by rfl) T.g_w_pick T.F_w_pick.kp T.b_w_pick (qa_cons (q_varM 0) (qa_cons (q_share (q_lst (qa_cons q_str (qa_cons q_str (qa_cons q_str (qa_cons q_str (qa_cons q_str (qa_cons q_str qa_nil)))))))) qa_nil)))))
  qss_nil)
  (qss_cons (qs_if (qt_eq (q_var 1) q_int hr.units)
  (qss_cons (qs_set (i := 4) sc_w_name.nd rfl (by first | exact Or.inl rfl | exact Or.inr rfl) (q_lst (qa_cons q_str (qa_cons q_str (qa_cons q_str (qa_cons q_str (qa_cons q_str (qa_cons q_str (qa_cons q_str (qa_cons q_str (qa_cons q_str (qa_cons q_str (qa_cons q_str (qa_cons q_str qa_nil))))))))))))))
  (qss_one (qs_fz 4 (qs_ret (q_call (ok_w_pick T) (hr.mono (by decide)) (by rfl) T.g_w_pick T.F_w_pick.kp T.b_w_pick (qa_cons (q_varM 0) (qa_cons (q_varM 4) qa_nil)))))))
  qss_nil)
  (qss_cons (qs_set (i := 2) sc_w_name.nd rfl (by first | exact Or.inl rfl | exact Or.inr rfl) (q_add q_int (q_call (ok_w_next T) (hr.mono (by decide)) (by rfl) T.g_w_next T.F_w_next.kp T.b_w_next (qa_cons (q_varM 0) (qa_cons q_int qa_nil)))))
  (qss_cons (qs_set (i := 3) sc_w_name.nd rfl (by first | exact Or.inl rfl | exact Or.inr rfl) (q_join q_str (q_lc (own := [("_law_k", 5)]) rfl sc_w_name.nd (qi_rng1 (by rfl) T.z_range (qa_cons (q_varM 2) qa_nil)) (blkOk_by (own := [("_law_k", 5)]) (N := N_w_name) (sc := defScope s_w_name) (by decide +kernel)) (fun _ _ _ _ _ => (qg_name (i := 5) (vs := [5]) (by decide) sc_w_name.nd rfl (by first | exact Or.inl rfl | exact Or.inr rfl))) (fun _ _ _ _ _ => qts_nil) (fun _ _ _ _ _ => (q_call (ok_w_pick T) (hr.mono (by decide)) (by rfl) T.g_w_pick T.F_w_pick.kp T.b_w_pick (qa_cons (q_varM 0) (qa_cons q_str qa_nil)))))))
  (qss_one (qs_ret (q_sub1 (q_lst (qa_cons q_str (qa_cons (q_varM 3) qa_nil))) (q_t1 rel_int call_int1 (by rfl) T.z_int bt_int (q_notIn (q_var 3) (q_call0 (ok_w_kept T) (hr.mono (by decide)) (by rfl) T.g_w_kept T.F_w_kept.kp T.b_w_kept)))))))))))) pure_w_name
theorem ok_w_number (T : Txt w K mg) : FnOk P w K mg base CX0 4 T.f_w_number T.fd_w_number ["_law_draw_here"] (spD K sp_w_number) :=
  fn_d T.F_w_number sc_w_number len_w_number (fun cdv A outer s H hr => (qss_cons (qs_set (i := 1) sc_w_number.nd rfl (by first | exact Or.inl rfl | exact Or.inr rfl) (q_call (ok_w_next T) (hr.mono (by decide)) (by rfl) T.g_w_next T.F_w_next.kp T.b_w_next (qa_cons (q_varM 0) (qa_cons (q_pow q_int q_int) qa_nil))))
  (qss_cons (qs_set (i := 2) sc_w_number.nd rfl (by first | exact Or.inl rfl | exact Or.inr rfl) (q_lst (qa_cons (q_mod (q_var 1) q_int) (qa_cons (q_mod (q_var 1) q_int) (qa_cons (q_add (q_pow q_int q_int) (q_var 1)) (qa_cons (q_mul q_int (q_mod (q_var 1) q_int)) qa_nil))))))
  (qss_one (qs_fz 2 (qs_ret (q_mul (q_call (ok_w_pick T) (hr.mono (by decide)) (by rfl) T.g_w_pick T.F_w_pick.kp T.b_w_pick (qa_cons (q_varM 0) (qa_cons (q_varM 2) qa_nil))) (q_sub1 (q_lst (qa_cons q_int (qa_cons (q_neg q_int) qa_nil))) (q_call (ok_w_next T) (hr.mono (by decide)) (by rfl) T.g_w_next T.F_w_next.kp T.b_w_next (qa_cons (q_varM 0) (qa_cons q_int qa_nil))))))))))) pure_w_number
theorem ok_w_leaf (T : Txt w K mg) : FnOk P w K mg base CX0 5 T.f_w_leaf T.fd_w_leaf ["_law_draw_here"] (spD K sp_w_leaf) :=
  fn_d T.F_w_leaf sc_w_leaf len_w_leaf (fun cdv A outer s H hr => (qss_cons (qs_set (i := 1) sc_w_leaf.nd rfl (by first | exact Or.inl rfl | exact Or.inr rfl) (q_call (ok_w_next T) (hr.mono (by decide)) (by rfl) T.g_w_next T.F_w_next.kp T.b_w_next (qa_cons (q_varM 0) (qa_cons q_int qa_nil))))
  (qss_cons (qs_if (qt_lt (q_var 1) q_int)
  (qss_one (qs_ret (q_tup (qa_cons q_str (qa_cons (q_call (ok_w_number T) (hr.mono (by decide)) (by rfl) T.g_w_number T.F_w_number.kp T.b_w_number (qa_cons (q_varM 0) qa_nil)) qa_nil)))))
  qss_nil)
  (qss_cons (qs_if (qt_eq (q_var 1) q_int hr.units)
  (qss_one (qs_ret (q_tup (qa_cons q_str (qa_cons (q_eq hr.units (q_call (ok_w_next T) (hr.mono (by decide)) (by rfl) T.g_w_next T.F_w_next.kp T.b_w_next (qa_cons (q_varM 0) (qa_cons q_int qa_nil))) q_int) qa_nil)))))
  qss_nil)
  (qss_cons (qs_if (qt_eq (q_var 1) q_int hr.units)
  (qss_one (qs_ret (q_tup (qa_cons q_str qa_nil))))
  qss_nil)
  (qss_one (qs_ret (q_tup (qa_cons (q_sub1 (q_lst (qa_cons q_str (qa_cons q_str qa_nil))) (q_sub (q_var 1) q_int)) (qa_cons (q_call (ok_w_name T) (hr.mono (by decide)) (by rfl) T.g_w_name T.F_w_name.kp T.b_w_name (qa_cons (q_varM 0) qa_nil)) qa_nil)))))))))) pure_w_leaf
theorem ok_w_term (T : Txt w K mg) : ∀ n : Nat, FnOk P w K mg base CX0 (n + 5) T.f_w_term T.fd_w_term ["_law_draw_here", "_law_deep"] (spD K (sp_w_term n))
  | 0 => fn_no no_w_term
  | n + 1 => by
    have ih := ok_w_term T n
    have h : FnOk P w K mg base CX0 ((n + 5) + 1) T.f_w_term T.fd_w_term ["_law_draw_here", "_law_deep"] (spD K (sp_w_term (n + 1))) := fn_d T.F_w_term sc_w_term (len_w_term (n + 1)) (fun cdv A outer s H hr => (qss_cons (qs_set (i := 2) sc_w_term.nd rfl (by first | exact Or.inl rfl | exact Or.inr rfl) (q_lst (qa_cons q_str (qa_cons q_str (qa_cons q_str (qa_cons q_str (qa_cons q_str (qa_cons q_str (qa_cons q_str (qa_cons q_str (qa_cons q_str (qa_cons q_str (qa_cons q_str qa_nil)))))))))))))
  (qss_cons (qs_fz 2 (qs_set (i := 3) sc_w_term.nd rfl (by first | exact Or.inl rfl | exact Or.inr rfl) (q_call (ok_w_pick T) (hr.mono (by omega)) (by rfl) T.g_w_pick T.F_w_pick.kp T.b_w_pick (qa_cons (q_varM 0) (qa_cons (q_varM 2) qa_nil)))))
  (qss_cons (qs_if (PW.pt (qw_or (qt_eq (q_var 1) q_int hr.units) (pw_or1 (qt_eq (q_call (ok_w_next T) (hr.mono (by omega)) (by rfl) T.g_w_next T.F_w_next.kp T.b_w_next (qa_cons (q_varM 0) (qa_cons q_int qa_nil))) q_int hr.units))))
  (qss_one (qs_ret (q_call (ok_w_leaf T) (hr.mono (by omega)) (by rfl) T.g_w_leaf T.F_w_leaf.kp T.b_w_leaf (qa_cons (q_varM 0) qa_nil))))
  qss_nil)
  (qss_cons (qs_if (qt_eq (q_var 3) q_str hr.units)
  (qss_one (qs_set (i := 3) sc_w_term.nd rfl (by first | exact Or.inl rfl | exact Or.inr rfl) (q_call (ok_w_pick T) (hr.mono (by omega)) (by rfl) T.g_w_pick T.F_w_pick.kp T.b_w_pick (qa_cons (q_varM 0) (qa_cons (q_share (q_lst (qa_cons q_str (qa_cons q_str (qa_cons q_str (qa_cons q_str qa_nil)))))) qa_nil)))))
  qss_nil)
  (qss_cons (qs_if (qt_in (q_var 3) (q_tup (qa_cons q_str (qa_cons q_str qa_nil))))
  (qss_one (qs_ret (q_tup (qa_cons (q_varM 3) (qa_cons (q_call ih (hr.mono (by omega)) (by rfl) T.g_w_term T.F_w_term.kp T.b_w_term (qa_cons (q_varM 0) (qa_cons (q_sub (q_var 1) q_int) qa_nil))) qa_nil)))))
  qss_nil)
  (qss_cons (qs_if (qt_eq (q_var 3) q_str hr.units)
  (qss_cons (qs_set (i := 6) sc_w_term.nd rfl (by first | exact Or.inl rfl | exact Or.inr rfl) (q_call (ok_w_name T) (hr.mono (by omega)) (by rfl) T.g_w_name T.F_w_name.kp T.b_w_name (qa_cons (q_varM 0) qa_nil)))
  (qss_cons (qs_set (i := 4) sc_w_term.nd rfl (by first | exact Or.inl rfl | exact Or.inr rfl) (q_call ih (hr.mono (by omega)) (by rfl) T.g_w_term T.F_w_term.kp T.b_w_term (qa_cons (q_varM 0) (qa_cons (q_sub (q_var 1) q_int) qa_nil))))
  (qss_one (qs_ret (q_tup (qa_cons (q_varM 3) (qa_cons (q_varM 6) (qa_cons (q_varM 4) (qa_cons (q_call ih (hr.mono (by omega)) (by rfl) T.g_w_term T.F_w_term.kp T.b_w_term (qa_cons (q_varM 0) (qa_cons (q_sub (q_var 1) q_int) qa_nil))) qa_nil)))))))))
  qss_nil)
  (qss_cons (qs_if (qt_eq (q_var 3) q_str hr.units)
  (qss_one (qs_ret (q_tup (qa_cons (q_varM 3) (qa_cons (q_call (ok_w_name T) (hr.mono (by omega)) (by rfl) T.g_w_name T.F_w_name.kp T.b_w_name (qa_cons (q_varM 0) qa_nil)) (qa_cons (q_call ih (hr.mono (by omega)) (by rfl) T.g_w_term T.F_w_term.kp T.b_w_term (qa_cons (q_varM 0) (qa_cons (q_sub (q_var 1) q_int) qa_nil))) qa_nil))))))
  qss_nil)
  (qss_cons (qs_set (i := 4) sc_w_term.nd rfl (by first | exact Or.inl rfl | exact Or.inr rfl) (q_call ih (hr.mono (by omega)) (by rfl) T.g_w_term T.F_w_term.kp T.b_w_term (qa_cons (q_varM 0) (qa_cons (q_sub (q_var 1) q_int) qa_nil))))
  (qss_cons (qs_set (i := 5) sc_w_term.nd rfl (by first | exact Or.inl rfl | exact Or.inr rfl) (q_call ih (hr.mono (by omega)) (by rfl) T.g_w_term T.F_w_term.kp T.b_w_term (qa_cons (q_varM 0) (qa_cons (q_sub (q_var 1) q_int) qa_nil))))
  (qss_cons (qs_if (qt_eq (q_var 3) q_str hr.units)
  (qss_cons (qs_set (i := 6) sc_w_term.nd rfl (by first | exact Or.inl rfl | exact Or.inr rfl) (q_call (ok_w_name T) (hr.mono (by omega)) (by rfl) T.g_w_name T.F_w_name.kp T.b_w_name (qa_cons (q_varM 0) qa_nil)))
  (qss_one (qs_ret (q_tup (qa_cons (q_varM 3) (qa_cons (q_varM 4) (qa_cons (q_varM 5) (qa_cons (q_varM 6) (qa_cons (q_sub1 (q_lst (qa_cons q_str (qa_cons q_str qa_nil))) (q_t1 rel_int call_int1 (by rfl) T.z_int bt_int (q_eq hr.units (q_var 6) q_str))) (qa_cons (q_call ih (hr.mono (by omega)) (by rfl) T.g_w_term T.F_w_term.kp T.b_w_term (qa_cons (q_varM 0) (qa_cons (q_sub (q_var 1) q_int) qa_nil))) qa_nil))))))))))
  qss_nil)
  (qss_cons (qs_if (qt_eq (q_var 3) q_str hr.units)
  (qss_one (qs_ret (q_tup (qa_cons (q_varM 3) (qa_cons (q_varM 4) (qa_cons (q_varM 5) (qa_cons (q_call (ok_w_name T) (hr.mono (by omega)) (by rfl) T.g_w_name T.F_w_name.kp T.b_w_name (qa_cons (q_varM 0) qa_nil)) (qa_cons (q_call ih (hr.mono (by omega)) (by rfl) T.g_w_term T.F_w_term.kp T.b_w_term (qa_cons (q_varM 0) (qa_cons (q_sub (q_var 1) q_int) qa_nil))) qa_nil))))))))
  qss_nil)
  (qss_cons (qs_if (qt_eq (q_var 3) q_str hr.units)
  (qss_one (qs_ret (q_tup (qa_cons (q_varM 3) (qa_cons (q_varM 4) (qa_cons (q_varM 5) (qa_cons (q_call ih (hr.mono (by omega)) (by rfl) T.g_w_term T.F_w_term.kp T.b_w_term (qa_cons (q_varM 0) (qa_cons (q_sub (q_var 1) q_int) qa_nil))) qa_nil)))))))
  qss_nil)
  (qss_one (qs_ret (q_tup (qa_cons (q_varM 3) (qa_cons (q_varM 4) (qa_cons (q_varM 5) qa_nil))))))))))))))))))) (pure_w_term n)
    rw [Nat.add_right_comm]
    exact h
theorem ok_w_size (T : Txt w K mg) : ∀ n : Nat, FnOk P w K mg base CX0 (n + 0) T.f_w_size T.fd_w_size ["_law_term_here"] (spD K (sp_w_size n))
  | 0 => fn_no no_w_size
  | n + 1 => by
    have ih := ok_w_size T n
    have h : FnOk P w K mg base CX0 ((n + 0) + 1) T.f_w_size T.fd_w_size ["_law_term_here"] (spD K (sp_w_size (n + 1))) := fn_d T.F_w_size sc_w_size (len_w_size (n + 1)) (fun cdv A outer s H hr => (qss_cons (qs_set (i := 1) sc_w_size.nd rfl (by first | exact Or.inl rfl | exact Or.inr rfl) q_int)
  (qss_cons (qs_set (i := 2) sc_w_size.nd rfl (by first | exact Or.inl rfl | exact Or.inr rfl) q_int)
  (qss_cons (qs_for (vs := [3]) PassesOwn.never rfl (qi_any (q_slice (q_var 0) (qo_some q_int) qo_none)) (qg_name (i := 3) (vs := [3]) (by decide) sc_w_size.nd rfl (by first | exact Or.inl rfl | exact Or.inr rfl))
  (qss_one (qs_if (q_test (q_isi .tuple (by rfl) T.z_isinstance (by rfl) T.z_tuple (by decide +kernel) (q_var 3)))
  (qss_cons (qs_set (i := 4) sc_w_size.nd rfl (by first | exact Or.inl rfl | exact Or.inr rfl) (q_call ih (hr.mono (by omega)) (by rfl) T.g_w_size T.F_w_size.kp T.b_w_size (qa_cons (q_varM 3) qa_nil)))
  (qss_cons (qs_set (i := 1) sc_w_size.nd rfl (by first | exact Or.inl rfl | exact Or.inr rfl) (q_add (q_var 1) (q_sub1 (q_var 4) q_int)))
  (qss_one (qs_set (i := 2) sc_w_size.nd rfl (by first | exact Or.inl rfl | exact Or.inr rfl) (q_b2 rel_max (call_max2 rfl) (by rfl) T.z_max bt_max (q_var 2) (q_sub1 (q_var 4) q_int))))))
  qss_nil)))
  (qss_one (qs_ret (q_tup (qa_cons (q_varM 1) (qa_cons (q_add (q_var 2) q_int) qa_nil))))))))) (pure_w_size n)
    rw [Nat.add_right_comm]
    exact h
theorem ok_w_words (T : Txt w K mg) : ∀ n : Nat, FnOk P w K mg base CX0 (n + 0) T.f_w_words T.fd_w_words ["_law_term_here"] (spD K (sp_w_words n))
  | 0 => fn_no no_w_words
  | n + 1 => by
    have ih := ok_w_words T n
    have h : FnOk P w K mg base CX0 ((n + 0) + 1) T.f_w_words T.fd_w_words ["_law_term_here"] (spD K (sp_w_words (n + 1))) := fn_d T.F_w_words sc_w_words (len_w_words (n + 1)) (fun cdv A outer s H hr => (qss_cons (qs_if (qt_eq (q_sub1 (q_var 0) q_int) q_str hr.units)
  (qss_one (qs_ret (q_lst (qa_cons (q_t1 rel_str call_str_int (by rfl) T.z_str bt_str (q_sub1 (q_var 0) q_int)) qa_nil))))
  qss_nil)
  (qss_cons (qs_if (qt_eq (q_sub1 (q_var 0) q_int) q_str hr.units)
  (qss_one (qs_ret (q_lst (qa_cons (q_sub1 (q_lst (qa_cons q_str (qa_cons q_str qa_nil))) (q_t1 rel_int call_int1 (by rfl) T.z_int bt_int (q_sub1 (q_var 0) q_int))) qa_nil))))
  qss_nil)
  (qss_cons (qs_if (qt_eq (q_sub1 (q_var 0) q_int) q_str hr.units)
  (qss_one (qs_ret (q_lst (qa_cons (q_sub1 (q_var 0) q_int) qa_nil))))
  qss_nil)
  (qss_cons (qs_if (qt_eq (q_sub1 (q_var 0) q_int) q_str hr.units)
  (qss_one (qs_ret (q_lst (qa_cons (q_add q_str (q_sub1 (q_var 0) q_int)) qa_nil))))
  qss_nil)
  (qss_cons (qs_set (i := 1) sc_w_words.nd rfl (by first | exact Or.inl rfl | exact Or.inr rfl) (q_lst (qa_cons (q_sub1 (q_var 0) q_int) qa_nil)))
  (qss_cons (qs_for (vs := [2]) PassesOwn.never rfl (qi_any (q_slice (q_var 0) (qo_some q_int) qo_none)) (qg_name (i := 2) (vs := [2]) (by decide) sc_w_words.nd rfl (by first | exact Or.inl rfl | exact Or.inr rfl))
  (qss_one (qs_if (q_test (q_isi .tuple (by rfl) T.z_isinstance (by rfl) T.z_tuple (by decide +kernel) (q_var 2)))
  (qss_one (qs_set (i := 1) sc_w_words.nd rfl (by first | exact Or.inl rfl | exact Or.inr rfl) (q_add (q_var 1) (q_call ih (hr.mono (by omega)) (by rfl) T.g_w_words T.F_w_words.kp T.b_w_words (qa_cons (q_varM 2) qa_nil)))))
  (qss_one (qs_append (i := 1) (pv 1) (q_varM 2) (pe_bm PySem.F.plainAttrs_list PySem.F.slot_list_append PySem.F.type_list_append mt_append (pv 1) (pa_cons (q_varM 2) pa_nil)))))))
  (qss_one (qs_retV 1))))))))) (pure_w_words n)
    rw [Nat.add_right_comm]
    exact h
theorem ok_w_fit (T : Txt w K mg) : FnOk P w K mg base CX0 43 T.f_w_fit T.fd_w_fit ["_law_draw_here", "_law_deep"] (spD K sp_w_fit) :=
  fn_d T.F_w_fit sc_w_fit len_w_fit (fun cdv A outer s H hr => (qss_cons (qs_set (i := 2) sc_w_fit.nd rfl (by first | exact Or.inl rfl | exact Or.inr rfl) (q_call (ok_w_term T 7) (hr.mono (by decide)) (by rfl) T.g_w_term T.F_w_term.kp T.b_w_term (qa_cons (q_varM 0) (qa_cons (q_varM 1) qa_nil))))
  (qss_cons (qs_while PassesOwn.never (PW.pt (qw_or (qt_gt (q_sub1 (q_call (ok_w_size T 7) (hr.mono (by decide)) (by rfl) T.g_w_size T.F_w_size.kp T.b_w_size (qa_cons (q_varM 2) qa_nil)) q_int) q_int) (pw_or1 (qt_gt (q_b1 rel_len call_len (by rfl) T.z_len bt_len (q_join q_str (q_call (ok_w_words T 41) (hr.mono (by decide)) (by rfl) T.g_w_words T.F_w_words.kp T.b_w_words (qa_cons (q_varM 2) qa_nil)))) q_int))))
  (qss_one (qs_set (i := 2) sc_w_fit.nd rfl (by first | exact Or.inl rfl | exact Or.inr rfl) (q_sub1 (q_lc (own := [("_law_one", 3)]) rfl sc_w_fit.nd (qi_any (q_slice (q_var 2) (qo_some q_int) qo_none)) (blkOk_by (own := [("_law_one", 3)]) (N := N_w_fit) (sc := defScope s_w_fit) (by decide +kernel)) (fun _ _ _ _ _ => (qg_name (i := 3) (vs := [3]) (by decide) sc_w_fit.nd rfl (by first | exact Or.inl rfl | exact Or.inr rfl))) (fun _ _ _ _ _ => (qts_one (q_test (q_isi .tuple (by rfl) T.z_isinstance (by rfl) T.z_tuple (by decide +kernel) (q_var 3))))) (fun _ _ _ _ _ => (q_varM 3))) q_int))))
  (qss_one (qs_retV 2))))) pure_w_fit
theorem ok_w_just (T : Txt w K mg) : ∀ n : Nat, FnOk P w K mg base CX0 (n + 3) T.f_w_just T.fd_w_just ["_law_draw_here", "_law_many"] (spD K (sp_w_just n))
  | 0 => fn_no no_w_just
  | n + 1 => by
    have ih := ok_w_just T n
    have h : FnOk P w K mg base CX0 ((n + 3) + 1) T.f_w_just T.fd_w_just ["_law_draw_here", "_law_many"] (spD K (sp_w_just (n + 1))) := fn_d T.F_w_just sc_w_just (len_w_just (n + 1)) (fun cdv A outer s H hr => (qss_cons (qs_if (qt_eq (q_var 1) q_int hr.units)
  (qss_one (qs_ret (q_call (ok_w_pick T) (hr.mono (by omega)) (by rfl) T.g_w_pick T.F_w_pick.kp T.b_w_pick (qa_cons (q_varM 0) (qa_cons (q_share (q_lst (qa_cons (q_tup (qa_cons q_str (qa_cons q_int qa_nil))) (qa_cons (q_tup (qa_cons q_str (qa_cons q_bl qa_nil))) (qa_cons (q_tup (qa_cons q_str (qa_cons q_str qa_nil))) (qa_cons (q_tup (qa_cons q_str (qa_cons q_str qa_nil))) (qa_cons (q_tup (qa_cons q_str qa_nil)) qa_nil))))))) qa_nil)))))
  qss_nil)
  (qss_cons (qs_if (qt_eq (q_var 1) q_int hr.units)
  (qss_one (qs_ret (q_tup (qa_cons (q_call (ok_w_pick T) (hr.mono (by omega)) (by rfl) T.g_w_pick T.F_w_pick.kp T.b_w_pick (qa_cons (q_varM 0) (qa_cons (q_share (q_lst (qa_cons q_str (qa_cons q_str qa_nil)))) qa_nil))) (qa_cons (q_tup (qa_cons q_str (qa_cons (q_neg q_int) qa_nil))) qa_nil)))))
  qss_nil)
  (qss_cons (qs_set (i := 2) sc_w_just.nd rfl (by first | exact Or.inl rfl | exact Or.inr rfl) (q_div (q_sub (q_var 1) q_int) q_int))
  (qss_cons (qs_set (i := 3) sc_w_just.nd rfl (by first | exact Or.inl rfl | exact Or.inr rfl) (q_call (ok_w_pick T) (hr.mono (by omega)) (by rfl) T.g_w_pick T.F_w_pick.kp T.b_w_pick (qa_cons (q_varM 0) (qa_cons (q_share (q_lst (qa_cons q_str (qa_cons q_str (qa_cons q_str (qa_cons q_str (qa_cons q_str (qa_cons q_str (qa_cons q_str qa_nil))))))))) qa_nil))))
  (qss_one (qs_ret (q_tup (qa_cons (q_varM 3) (qa_cons (q_call ih (hr.mono (by omega)) (by rfl) T.g_w_just T.F_w_just.kp T.b_w_just (qa_cons (q_varM 0) (qa_cons (q_varM 2) qa_nil))) (qa_cons (q_call ih (hr.mono (by omega)) (by rfl) T.g_w_just T.F_w_just.kp T.b_w_just (qa_cons (q_varM 0) (qa_cons (q_sub (q_sub (q_var 1) q_int) (q_var 2)) qa_nil))) qa_nil))))))))))) (pure_w_just n)
    rw [Nat.add_right_comm]
    exact h
theorem ok_w_chain (T : Txt w K mg) : FnOk P w K mg base CX0 6 T.f_w_chain T.fd_w_chain ["_law_draw_here", "_law_deep"] (spD K sp_w_chain) :=
  fn_d T.F_w_chain sc_w_chain len_w_chain (fun cdv A outer s H hr => (qss_cons (qs_set (i := 2) sc_w_chain.nd rfl (by first | exact Or.inl rfl | exact Or.inr rfl) (q_call (ok_w_leaf T) (hr.mono (by decide)) (by rfl) T.g_w_leaf T.F_w_leaf.kp T.b_w_leaf (qa_cons (q_varM 0) qa_nil)))
  (qss_cons (qs_for (vs := [3]) PassesOwn.never rfl (qi_rng1 (by rfl) T.z_range (qa_cons (q_sub (q_var 1) q_int) qa_nil)) (qg_name (i := 3) (vs := [3]) (by decide) sc_w_chain.nd rfl (by first | exact Or.inl rfl | exact Or.inr rfl))
  (qss_cons (qs_set (i := 4) sc_w_chain.nd rfl (by first | exact Or.inl rfl | exact Or.inr rfl) (q_call (ok_w_pick T) (hr.mono (by decide)) (by rfl) T.g_w_pick T.F_w_pick.kp T.b_w_pick (qa_cons (q_varM 0) (qa_cons (q_share (q_lst (qa_cons q_str (qa_cons q_str (qa_cons q_str qa_nil))))) qa_nil))))
  (qss_one (qs_set (i := 2) sc_w_chain.nd rfl (by first | exact Or.inl rfl | exact Or.inr rfl) (q_sub1 (q_lst (qa_cons (q_tup (qa_cons (q_varM 4) (qa_cons (q_varM 2) qa_nil))) (qa_cons (q_tup (qa_cons (q_varM 4) (qa_cons q_str (qa_cons (q_varM 2) qa_nil)))) qa_nil))) (q_t1 rel_int call_int1 (by rfl) T.z_int bt_int (q_eq hr.units (q_var 4) q_str)))))))
  (qss_one (qs_retV 2))))) pure_w_chain
theorem ok_law (T : Txt w K mg) : FnOk P w K mg base CX0 47 T.f_law T.fd_law ["_law_script"] (spD K sp_law) :=
  fn_d T.F_law sc_law len_law (fun cdv A outer s H hr => (qss_cons (qs_set (i := 1) sc_law.nd rfl (by first | exact Or.inl rfl | exact Or.inr rfl) (q_lst qa_nil))
  (qss_cons (qs_for (vs := [2]) PassesOwn.never rfl (qi_rng1 (by rfl) T.z_range (qa_cons (q_b2 rel_max (call_max2 rfl) (by rfl) T.z_max bt_max q_int (q_b2 rel_min (call_min2 rfl) (by rfl) T.z_min bt_min q_int (q_b1 rel_len call_len (by rfl) T.z_len bt_len (q_var 0)))) qa_nil)) (qg_name (i := 2) (vs := [2]) (by decide) sc_law.nd rfl (by first | exact Or.inl rfl | exact Or.inr rfl))
  (qss_cons (qs_set (i := 3) sc_law.nd rfl (by first | exact Or.inl rfl | exact Or.inr rfl) (q_call (ok_w_draw T) (hr.mono (by decide)) (by rfl) T.g_w_draw T.F_w_draw.kp T.b_w_draw (qa_cons (q_varM 0) (qa_cons (q_varM 2) qa_nil))))
  (qss_cons (qs_set (i := 4) sc_law.nd rfl (by first | exact Or.inl rfl | exact Or.inr rfl) (q_lst (qa_cons (q_call (ok_w_fit T) (hr.mono (by decide)) (by rfl) T.g_w_fit T.F_w_fit.kp T.b_w_fit (qa_cons (q_varM 3) (qa_cons q_int qa_nil))) qa_nil)))
  (qss_cons (qs_if (qt_eq (q_call (ok_w_next T) (hr.mono (by decide)) (by rfl) T.g_w_next T.F_w_next.kp T.b_w_next (qa_cons (q_varM 3) (qa_cons q_int qa_nil))) q_int hr.units)
  (qss_one (qs_set (i := 4) sc_law.nd rfl (by first | exact Or.inl rfl | exact Or.inr rfl) (q_add (q_var 4) (q_lst (qa_cons (q_call (ok_w_just T 10) (hr.mono (by decide)) (by rfl) T.g_w_just T.F_w_just.kp T.b_w_just (qa_cons (q_varM 3) (qa_cons q_int qa_nil))) (qa_cons (q_call (ok_w_chain T) (hr.mono (by decide)) (by rfl) T.g_w_chain T.F_w_chain.kp T.b_w_chain (qa_cons (q_varM 3) (qa_cons q_int qa_nil))) qa_nil))))))
  qss_nil)
  (qss_one (qs_fz 4 (qs_for (vs := [5]) PassesOwn.never rfl (qi_any (q_varM 4)) (qg_name (i := 5) (vs := [5]) (by decide) sc_law.nd rfl (by first | exact Or.inl rfl | exact Or.inr rfl))
  (qss_cons (qs_set (i := 6) sc_law.nd rfl (by first | exact Or.inl rfl | exact Or.inr rfl) (q_join q_str (q_call (ok_w_words T 41) (hr.mono (by decide)) (by rfl) T.g_w_words T.F_w_words.kp T.b_w_words (qa_cons (q_varM 5) qa_nil))))
  (qss_cons (qs_set (i := 7) sc_law.nd rfl (by first | exact Or.inl rfl | exact Or.inr rfl) (q_call (ok_term_text T) (hr.mono (by decide)) (by rfl) T.g_term_text T.F_term_text.kp T.b_term_text (qa_cons (q_varM 5) qa_nil)))
  (qss_cons (qs_if (PW.pt (qw_or (q_not (q_test (q_isi .str (by rfl) T.z_isinstance (by rfl) T.z_str (by decide +kernel) (q_var 7)))) (pw_or1 (qt_ne (q_var 7) (q_var 6) hr.units))))
  (qss_one (qs_ret q_bl))
  qss_nil)
  (qss_one (qs_append (i := 1) (pv 1) (q_tup (qa_cons (q_varM 5) (qa_cons (q_varM 6) qa_nil))) (pe_bm PySem.F.plainAttrs_list PySem.F.slot_list_append PySem.F.type_list_append mt_append (pv 1) (pa_cons (q_tup (qa_cons (q_varM 5) (qa_cons (q_varM 6) qa_nil))) pa_nil))))))))))))))
  (qss_one (qs_fz 1 (qs_ret (q_eqE hr.units (q_lc (own := [("_law_term_here", 5), ("_law_due", 6)]) rfl sc_law.nd (qi_any (q_varM 1)) (blkOk_by (own := [("_law_term_here", 5), ("_law_due", 6)]) (N := N_law) (sc := defScope s_law) (by decide +kernel)) (fun _ _ _ _ _ => (qg_t2 (vs := [5, 6]) rfl (by decide) (by decide) (pg_name (i := 5) sc_law.nd rfl (by first | exact Or.inl rfl | exact Or.inr rfl)) (pg_name (i := 6) sc_law.nd rfl (by first | exact Or.inl rfl | exact Or.inr rfl)))) (fun _ _ _ _ _ => (qts_one (qt_ne (q_call (ok_term_text T) (hr.mono (by decide)) (by rfl) T.g_term_text T.F_term_text.kp T.b_term_text (qa_cons (q_varM 5) qa_nil)) (q_var 6) hr.units))) (fun _ _ _ _ _ => (q_varM 5))) (q_lst qa_nil)))))))) pure_law
end
theorem all_mk {l : PySem.W.OpenLaw} {w : World} {K : PySem.W.Frag} {h : Heap} {mg : Str → Option Value} {fa : Addr} (X : K.In h) (G : h.Ns mainGlobals mg) (hfa : mg "law" = some (.ref fa))
    {f0 : Addr} {od0 an0 : Option Addr} {sl0 : Array (Option Value)} {oc0 kV0 dc0 pm0 cd0 ct0 : Value}
    {f1 : Addr} {od1 an1 : Option Addr} {sl1 : Array (Option Value)} {oc1 kV1 dc1 pm1 cd1 ct1 : Value}
    {f2 : Addr} {od2 an2 : Option Addr} {sl2 : Array (Option Value)} {oc2 kV2 dc2 pm2 cd2 ct2 : Value}
    {f3 : Addr} {od3 an3 : Option Addr} {sl3 : Array (Option Value)} {oc3 kV3 dc3 pm3 cd3 ct3 : Value}
    {f4 : Addr} {od4 an4 : Option Addr} {sl4 : Array (Option Value)} {oc4 kV4 dc4 pm4 cd4 ct4 : Value}
    {f5 : Addr} {od5 an5 : Option Addr} {sl5 : Array (Option Value)} {oc5 kV5 dc5 pm5 cd5 ct5 : Value}
    {f6 : Addr} {od6 an6 : Option Addr} {sl6 : Array (Option Value)} {oc6 kV6 dc6 pm6 cd6 ct6 : Value}
    {f7 : Addr} {od7 an7 : Option Addr} {sl7 : Array (Option Value)} {oc7 kV7 dc7 pm7 cd7 ct7 : Value}
    {f8 : Addr} {od8 an8 : Option Addr} {sl8 : Array (Option Value)} {oc8 kV8 dc8 pm8 cd8 ct8 : Value}
    {f9 : Addr} {od9 an9 : Option Addr} {sl9 : Array (Option Value)} {oc9 kV9 dc9 pm9 cd9 ct9 : Value}
    {f10 : Addr} {od10 an10 : Option Addr} {sl10 : Array (Option Value)} {oc10 kV10 dc10 pm10 cd10 ct10 : Value}
    {f11 : Addr} {od11 an11 : Option Addr} {sl11 : Array (Option Value)} {oc11 kV11 dc11 pm11 cd11 ct11 : Value}
    {f12 : Addr} {od12 an12 : Option Addr} {sl12 : Array (Option Value)} {oc12 kV12 dc12 pm12 cd12 ct12 : Value}
    {f13 : Addr} {od13 an13 : Option Addr} {sl13 : Array (Option Value)} {oc13 kV13 dc13 pm13 cd13 ct13 : Value}
    {f14 : Addr} {od14 an14 : Option Addr} {sl14 : Array (Option Value)} {oc14 kV14 dc14 pm14 cd14 ct14 : Value}
    {f15 : Addr} {od15 an15 : Option Addr} {sl15 : Array (Option Value)} {oc15 kV15 dc15 pm15 cd15 ct15 : Value}
    {f16 : Addr} {od16 an16 : Option Addr} {sl16 : Array (Option Value)} {oc16 kV16 dc16 pm16 cd16 ct16 : Value}
    {f17 : Addr} {od17 an17 : Option Addr} {sl17 : Array (Option Value)} {oc17 kV17 dc17 pm17 cd17 ct17 : Value}
    {f18 : Addr} {od18 an18 : Option Addr} {sl18 : Array (Option Value)} {oc18 kV18 dc18 pm18 cd18 ct18 : Value}
    {f19 : Addr} {od19 an19 : Option Addr} {sl19 : Array (Option Value)} {oc19 kV19 dc19 pm19 cd19 ct19 : Value}
    {f20 : Addr} {od20 an20 : Option Addr} {sl20 : Array (Option Value)} {oc20 kV20 dc20 pm20 cd20 ct20 : Value}
    {aC_KEPT : Addr} {oC_KEPT : Obj}
    {uC_LETTERS : Value}
    {uC_MOST_DEEP : Value}
    {uC_MOST_LETTERS : Value}
    {uC_MOST_PARTS : Value}
    {aC_SIGNS : Addr} {esC_SIGNS : Array DictEntry} {nC_SIGNS : Nat}
    (a0 : PySem.W.nsIn K mainGlobals "is_name" = some (some (.ref f0))) (l0 : K.lookup f0 = some ⟨oc0, od0, .func (PySem.W.fnOf "is_name" "is_name" (defArgs s_is_name) (defBody s_is_name) (defScope s_is_name) .none kV0 dc0 pm0 an0 cd0 ct0), sl0⟩) (c0 : PySem.W.codeIn K cd0 "is_name" = true) (k0 : PySem.W.keepIn K (.ref f0) = true)
    (a1 : PySem.W.nsIn K mainGlobals "is_single" = some (some (.ref f1))) (l1 : K.lookup f1 = some ⟨oc1, od1, .func (PySem.W.fnOf "is_single" "is_single" (defArgs s_is_single) (defBody s_is_single) (defScope s_is_single) .none kV1 dc1 pm1 an1 cd1 ct1), sl1⟩) (c1 : PySem.W.codeIn K cd1 "is_single" = true) (k1 : PySem.W.keepIn K (.ref f1) = true)
    (a2 : PySem.W.nsIn K mainGlobals "left_behind" = some (some (.ref f2))) (l2 : K.lookup f2 = some ⟨oc2, od2, .func (PySem.W.fnOf "left_behind" "left_behind" (defArgs s_left_behind) (defBody s_left_behind) (defScope s_left_behind) .none kV2 dc2 pm2 an2 cd2 ct2), sl2⟩) (c2 : PySem.W.codeIn K cd2 "left_behind" = true) (k2 : PySem.W.keepIn K (.ref f2) = true)
    (a3 : PySem.W.nsIn K mainGlobals "is_term" = some (some (.ref f3))) (l3 : K.lookup f3 = some ⟨oc3, od3, .func (PySem.W.fnOf "is_term" "is_term" (defArgs s_is_term) (defBody s_is_term) (defScope s_is_term) .none kV3 dc3 pm3 an3 cd3 ct3), sl3⟩) (c3 : PySem.W.codeIn K cd3 "is_term" = true) (k3 : PySem.W.keepIn K (.ref f3) = true)
    (a4 : PySem.W.nsIn K mainGlobals "words_of_term" = some (some (.ref f4))) (l4 : K.lookup f4 = some ⟨oc4, od4, .func (PySem.W.fnOf "words_of_term" "words_of_term" (defArgs s_words_of_term) (defBody s_words_of_term) (defScope s_words_of_term) .none kV4 dc4 pm4 an4 cd4 ct4), sl4⟩) (c4 : PySem.W.codeIn K cd4 "words_of_term" = true) (k4 : PySem.W.keepIn K (.ref f4) = true)
    (a5 : PySem.W.nsIn K mainGlobals "term_text" = some (some (.ref f5))) (l5 : K.lookup f5 = some ⟨oc5, od5, .func (PySem.W.fnOf "term_text" "term_text" (defArgs s_term_text) (defBody s_term_text) (defScope s_term_text) .none kV5 dc5 pm5 an5 cd5 ct5), sl5⟩) (c5 : PySem.W.codeIn K cd5 "term_text" = true) (k5 : PySem.W.keepIn K (.ref f5) = true)
    (a6 : PySem.W.nsIn K mainGlobals "_law_mixed" = some (some (.ref f6))) (l6 : K.lookup f6 = some ⟨oc6, od6, .func (PySem.W.fnOf "_law_mixed" "_law_mixed" (defArgs s_w_mixed) (defBody s_w_mixed) (defScope s_w_mixed) .none kV6 dc6 pm6 an6 cd6 ct6), sl6⟩) (c6 : PySem.W.codeIn K cd6 "_law_mixed" = true) (k6 : PySem.W.keepIn K (.ref f6) = true)
    (a7 : PySem.W.nsIn K mainGlobals "_law_draw" = some (some (.ref f7))) (l7 : K.lookup f7 = some ⟨oc7, od7, .func (PySem.W.fnOf "_law_draw" "_law_draw" (defArgs s_w_draw) (defBody s_w_draw) (defScope s_w_draw) .none kV7 dc7 pm7 an7 cd7 ct7), sl7⟩) (c7 : PySem.W.codeIn K cd7 "_law_draw" = true) (k7 : PySem.W.keepIn K (.ref f7) = true)
    (a8 : PySem.W.nsIn K mainGlobals "_law_next" = some (some (.ref f8))) (l8 : K.lookup f8 = some ⟨oc8, od8, .func (PySem.W.fnOf "_law_next" "_law_next" (defArgs s_w_next) (defBody s_w_next) (defScope s_w_next) .none kV8 dc8 pm8 an8 cd8 ct8), sl8⟩) (c8 : PySem.W.codeIn K cd8 "_law_next" = true) (k8 : PySem.W.keepIn K (.ref f8) = true)
    (a9 : PySem.W.nsIn K mainGlobals "_law_pick" = some (some (.ref f9))) (l9 : K.lookup f9 = some ⟨oc9, od9, .func (PySem.W.fnOf "_law_pick" "_law_pick" (defArgs s_w_pick) (defBody s_w_pick) (defScope s_w_pick) .none kV9 dc9 pm9 an9 cd9 ct9), sl9⟩) (c9 : PySem.W.codeIn K cd9 "_law_pick" = true) (k9 : PySem.W.keepIn K (.ref f9) = true)
    (a10 : PySem.W.nsIn K mainGlobals "_law_kept" = some (some (.ref f10))) (l10 : K.lookup f10 = some ⟨oc10, od10, .func (PySem.W.fnOf "_law_kept" "_law_kept" (defArgs s_w_kept) (defBody s_w_kept) (defScope s_w_kept) .none kV10 dc10 pm10 an10 cd10 ct10), sl10⟩) (c10 : PySem.W.codeIn K cd10 "_law_kept" = true) (k10 : PySem.W.keepIn K (.ref f10) = true)
    (a11 : PySem.W.nsIn K mainGlobals "_law_name" = some (some (.ref f11))) (l11 : K.lookup f11 = some ⟨oc11, od11, .func (PySem.W.fnOf "_law_name" "_law_name" (defArgs s_w_name) (defBody s_w_name) (defScope s_w_name) .none kV11 dc11 pm11 an11 cd11 ct11), sl11⟩) (c11 : PySem.W.codeIn K cd11 "_law_name" = true) (k11 : PySem.W.keepIn K (.ref f11) = true)
    (a12 : PySem.W.nsIn K mainGlobals "_law_number" = some (some (.ref f12))) (l12 : K.lookup f12 = some ⟨oc12, od12, .func (PySem.W.fnOf "_law_number" "_law_number" (defArgs s_w_number) (defBody s_w_number) (defScope s_w_number) .none kV12 dc12 pm12 an12 cd12 ct12), sl12⟩) (c12 : PySem.W.codeIn K cd12 "_law_number" = true) (k12 : PySem.W.keepIn K (.ref f12) = true)
    (a13 : PySem.W.nsIn K mainGlobals "_law_leaf" = some (some (.ref f13))) (l13 : K.lookup f13 = some ⟨oc13, od13, .func (PySem.W.fnOf "_law_leaf" "_law_leaf" (defArgs s_w_leaf) (defBody s_w_leaf) (defScope s_w_leaf) .none kV13 dc13 pm13 an13 cd13 ct13), sl13⟩) (c13 : PySem.W.codeIn K cd13 "_law_leaf" = true) (k13 : PySem.W.keepIn K (.ref f13) = true)
    (a14 : PySem.W.nsIn K mainGlobals "_law_term" = some (some (.ref f14))) (l14 : K.lookup f14 = some ⟨oc14, od14, .func (PySem.W.fnOf "_law_term" "_law_term" (defArgs s_w_term) (defBody s_w_term) (defScope s_w_term) .none kV14 dc14 pm14 an14 cd14 ct14), sl14⟩) (c14 : PySem.W.codeIn K cd14 "_law_term" = true) (k14 : PySem.W.keepIn K (.ref f14) = true)
    (a15 : PySem.W.nsIn K mainGlobals "_law_size" = some (some (.ref f15))) (l15 : K.lookup f15 = some ⟨oc15, od15, .func (PySem.W.fnOf "_law_size" "_law_size" (defArgs s_w_size) (defBody s_w_size) (defScope s_w_size) .none kV15 dc15 pm15 an15 cd15 ct15), sl15⟩) (c15 : PySem.W.codeIn K cd15 "_law_size" = true) (k15 : PySem.W.keepIn K (.ref f15) = true)
    (a16 : PySem.W.nsIn K mainGlobals "_law_words" = some (some (.ref f16))) (l16 : K.lookup f16 = some ⟨oc16, od16, .func (PySem.W.fnOf "_law_words" "_law_words" (defArgs s_w_words) (defBody s_w_words) (defScope s_w_words) .none kV16 dc16 pm16 an16 cd16 ct16), sl16⟩) (c16 : PySem.W.codeIn K cd16 "_law_words" = true) (k16 : PySem.W.keepIn K (.ref f16) = true)
    (a17 : PySem.W.nsIn K mainGlobals "_law_fit" = some (some (.ref f17))) (l17 : K.lookup f17 = some ⟨oc17, od17, .func (PySem.W.fnOf "_law_fit" "_law_fit" (defArgs s_w_fit) (defBody s_w_fit) (defScope s_w_fit) .none kV17 dc17 pm17 an17 cd17 ct17), sl17⟩) (c17 : PySem.W.codeIn K cd17 "_law_fit" = true) (k17 : PySem.W.keepIn K (.ref f17) = true)
    (a18 : PySem.W.nsIn K mainGlobals "_law_just" = some (some (.ref f18))) (l18 : K.lookup f18 = some ⟨oc18, od18, .func (PySem.W.fnOf "_law_just" "_law_just" (defArgs s_w_just) (defBody s_w_just) (defScope s_w_just) .none kV18 dc18 pm18 an18 cd18 ct18), sl18⟩) (c18 : PySem.W.codeIn K cd18 "_law_just" = true) (k18 : PySem.W.keepIn K (.ref f18) = true)
    (a19 : PySem.W.nsIn K mainGlobals "_law_chain" = some (some (.ref f19))) (l19 : K.lookup f19 = some ⟨oc19, od19, .func (PySem.W.fnOf "_law_chain" "_law_chain" (defArgs s_w_chain) (defBody s_w_chain) (defScope s_w_chain) .none kV19 dc19 pm19 an19 cd19 ct19), sl19⟩) (c19 : PySem.W.codeIn K cd19 "_law_chain" = true) (k19 : PySem.W.keepIn K (.ref f19) = true)
    (a20 : PySem.W.nsIn K mainGlobals "law" = some (some (.ref f20))) (l20 : K.lookup f20 = some ⟨oc20, od20, .func (PySem.W.fnOf "law" "law" (defArgs s_law) (defBody s_law) (defScope s_law) .none kV20 dc20 pm20 an20 cd20 ct20), sl20⟩) (c20 : PySem.W.codeIn K cd20 "law" = true) (k20 : PySem.W.keepIn K (.ref f20) = true)
    (z_all : PySem.W.nsIn K mainGlobals "all" = some none)
    (z_bool : PySem.W.nsIn K mainGlobals "bool" = some none)
    (z_int : PySem.W.nsIn K mainGlobals "int" = some none)
    (z_isinstance : PySem.W.nsIn K mainGlobals "isinstance" = some none)
    (z_len : PySem.W.nsIn K mainGlobals "len" = some none)
    (z_max : PySem.W.nsIn K mainGlobals "max" = some none)
    (z_min : PySem.W.nsIn K mainGlobals "min" = some none)
    (z_range : PySem.W.nsIn K mainGlobals "range" = some none)
    (z_str : PySem.W.nsIn K mainGlobals "str" = some none)
    (z_tuple : PySem.W.nsIn K mainGlobals "tuple" = some none)
    (z_zip : PySem.W.nsIn K mainGlobals "zip" = some none)
    (q_KEPT : PySem.W.nsIn K mainGlobals "KEPT" = some (some (.ref aC_KEPT))) (r_KEPT : K.lookup aC_KEPT = some oC_KEPT) (t_KEPT : cstTup oC_KEPT (["number", "truth", "name", "gap", "let", "fun", "call", "pair", "first", "second", "none", "add", "fold", "again", "if", "plus", "minus", "less", "same", "yes", "no", "num", "list", "any"]) = true)
    (q_LETTERS : PySem.W.nsIn K mainGlobals "LETTERS" = some (some uC_LETTERS)) (t_LETTERS : cstV uC_LETTERS g_LETTERS = true)
    (q_MOST_DEEP : PySem.W.nsIn K mainGlobals "MOST_DEEP" = some (some uC_MOST_DEEP)) (t_MOST_DEEP : cstV uC_MOST_DEEP g_MOST_DEEP = true)
    (q_MOST_LETTERS : PySem.W.nsIn K mainGlobals "MOST_LETTERS" = some (some uC_MOST_LETTERS)) (t_MOST_LETTERS : cstV uC_MOST_LETTERS g_MOST_LETTERS = true)
    (q_MOST_PARTS : PySem.W.nsIn K mainGlobals "MOST_PARTS" = some (some uC_MOST_PARTS)) (t_MOST_PARTS : cstV uC_MOST_PARTS g_MOST_PARTS = true)
    (q_SIGNS : PySem.W.nsIn K mainGlobals "SIGNS" = some (some (.ref aC_SIGNS))) (r_SIGNS : K.lookup aC_SIGNS = some ⟨.type "dict", none, .dict esC_SIGNS nC_SIGNS, #[]⟩) (h_SIGNS : PySem.W.KeysLit w.params esC_SIGNS.toList) (t_SIGNS : entsOk esC_SIGNS.toList tab_SIGNS = true) (y_SIGNS : (aC_SIGNS == sysModules) = false) :
    ∃ fd : FuncData, (∀ (s : Shared) (v : Value), BindsTo s fd ⟨[v], []⟩ [("_law_script", v)]) ∧ ∀ base : Heap, K.In base → base.Ns mainGlobals mg → FnOk l.prog w K mg base CX0 47 fa fd ["_law_script"] (spD K sp_law) := by
  have e := hfa.symm.trans (PySem.W.mg_of X G a20)
  cases e
  have F0 := fun_mk (st := s_is_name) l0 c0 k0
  have b0 := F0.binds (ps := ["thing"]) fun _ _ _ _ _ _ us hl => match us, hl with | [_], _ => rfl
  have F1 := fun_mk (st := s_is_single) l1 c1 k1
  have b1 := F1.binds (ps := ["sign", "thing"]) fun _ _ _ _ _ _ us hl => match us, hl with | [_, _], _ => rfl
  have F2 := fun_mk (st := s_left_behind) l2 c2 k2
  have b2 := F2.binds (ps := ["thing", "left", "levels"]) fun _ _ _ _ _ _ us hl => match us, hl with | [_, _, _], _ => rfl
  have F3 := fun_mk (st := s_is_term) l3 c3 k3
  have b3 := F3.binds (ps := ["thing"]) fun _ _ _ _ _ _ us hl => match us, hl with | [_], _ => rfl
  have F4 := fun_mk (st := s_words_of_term) l4 c4 k4
  have b4 := F4.binds (ps := ["term"]) fun _ _ _ _ _ _ us hl => match us, hl with | [_], _ => rfl
  have F5 := fun_mk (st := s_term_text) l5 c5 k5
  have b5 := F5.binds (ps := ["term"]) fun _ _ _ _ _ _ us hl => match us, hl with | [_], _ => rfl
  have F6 := fun_mk (st := s_w_mixed) l6 c6 k6
  have b6 := F6.binds (ps := ["_law_cell", "_law_k"]) fun _ _ _ _ _ _ us hl => match us, hl with | [_, _], _ => rfl
  have F7 := fun_mk (st := s_w_draw) l7 c7 k7
  have b7 := F7.binds (ps := ["_law_script", "_law_k"]) fun _ _ _ _ _ _ us hl => match us, hl with | [_, _], _ => rfl
  have F8 := fun_mk (st := s_w_next) l8 c8 k8
  have b8 := F8.binds (ps := ["_law_draw_here", "_law_size_here"]) fun _ _ _ _ _ _ us hl => match us, hl with | [_, _], _ => rfl
  have F9 := fun_mk (st := s_w_pick) l9 c9 k9
  have b9 := F9.binds (ps := ["_law_draw_here", "_law_some"]) fun _ _ _ _ _ _ us hl => match us, hl with | [_, _], _ => rfl
  have F10 := fun_mk (st := s_w_kept) l10 c10 k10
  have b10 := F10.binds (ps := []) fun _ _ _ _ _ _ us hl => match us, hl with | [], _ => rfl
  have F11 := fun_mk (st := s_w_name) l11 c11 k11
  have b11 := F11.binds (ps := ["_law_draw_here"]) fun _ _ _ _ _ _ us hl => match us, hl with | [_], _ => rfl
  have F12 := fun_mk (st := s_w_number) l12 c12 k12
  have b12 := F12.binds (ps := ["_law_draw_here"]) fun _ _ _ _ _ _ us hl => match us, hl with | [_], _ => rfl
  have F13 := fun_mk (st := s_w_leaf) l13 c13 k13
  have b13 := F13.binds (ps := ["_law_draw_here"]) fun _ _ _ _ _ _ us hl => match us, hl with | [_], _ => rfl
  have F14 := fun_mk (st := s_w_term) l14 c14 k14
  have b14 := F14.binds (ps := ["_law_draw_here", "_law_deep"]) fun _ _ _ _ _ _ us hl => match us, hl with | [_, _], _ => rfl
  have F15 := fun_mk (st := s_w_size) l15 c15 k15
  have b15 := F15.binds (ps := ["_law_term_here"]) fun _ _ _ _ _ _ us hl => match us, hl with | [_], _ => rfl
  have F16 := fun_mk (st := s_w_words) l16 c16 k16
  have b16 := F16.binds (ps := ["_law_term_here"]) fun _ _ _ _ _ _ us hl => match us, hl with | [_], _ => rfl
  have F17 := fun_mk (st := s_w_fit) l17 c17 k17
  have b17 := F17.binds (ps := ["_law_draw_here", "_law_deep"]) fun _ _ _ _ _ _ us hl => match us, hl with | [_, _], _ => rfl
  have F18 := fun_mk (st := s_w_just) l18 c18 k18
  have b18 := F18.binds (ps := ["_law_draw_here", "_law_many"]) fun _ _ _ _ _ _ us hl => match us, hl with | [_, _], _ => rfl
  have F19 := fun_mk (st := s_w_chain) l19 c19 k19
  have b19 := F19.binds (ps := ["_law_draw_here", "_law_deep"]) fun _ _ _ _ _ _ us hl => match us, hl with | [_, _], _ => rfl
  have F20 := fun_mk (st := s_law) l20 c20 k20
  have b20 := F20.binds (ps := ["_law_script"]) fun _ _ _ _ _ _ us hl => match us, hl with | [_], _ => rfl
  let T : Txt w K mg := { f_is_name := _, fd_is_name := _, F_is_name := F0, g_is_name := PySem.W.mg_of X G a0, b_is_name := b0, f_is_single := _, fd_is_single := _, F_is_single := F1, g_is_single := PySem.W.mg_of X G a1, b_is_single := b1, f_left_behind := _, fd_left_behind := _, F_left_behind := F2, g_left_behind := PySem.W.mg_of X G a2, b_left_behind := b2, f_is_term := _, fd_is_term := _, F_is_term := F3, g_is_term := PySem.W.mg_of X G a3, b_is_term := b3, f_words_of_term := _, fd_words_of_term := _, F_words_of_term := F4, g_words_of_term := PySem.W.mg_of X G a4, b_words_of_term := b4, f_term_text := _, fd_term_text := _, F_term_text := F5, g_term_text := PySem.W.mg_of X G a5, b_term_text := b5, f_w_mixed := _, fd_w_mixed := _, F_w_mixed := F6, g_w_mixed := PySem.W.mg_of X G a6, b_w_mixed := b6, f_w_draw := _, fd_w_draw := _, F_w_draw := F7, g_w_draw := PySem.W.mg_of X G a7, b_w_draw := b7, f_w_next := _, fd_w_next := _, F_w_next := F8, g_w_next := PySem.W.mg_of X G a8, b_w_next := b8, f_w_pick := _, fd_w_pick := _, F_w_pick := F9, g_w_pick := PySem.W.mg_of X G a9, b_w_pick := b9, f_w_kept := _, fd_w_kept := _, F_w_kept := F10, g_w_kept := PySem.W.mg_of X G a10, b_w_kept := b10, f_w_name := _, fd_w_name := _, F_w_name := F11, g_w_name := PySem.W.mg_of X G a11, b_w_name := b11, f_w_number := _, fd_w_number := _, F_w_number := F12, g_w_number := PySem.W.mg_of X G a12, b_w_number := b12, f_w_leaf := _, fd_w_leaf := _, F_w_leaf := F13, g_w_leaf := PySem.W.mg_of X G a13, b_w_leaf := b13, f_w_term := _, fd_w_term := _, F_w_term := F14, g_w_term := PySem.W.mg_of X G a14, b_w_term := b14, f_w_size := _, fd_w_size := _, F_w_size := F15, g_w_size := PySem.W.mg_of X G a15, b_w_size := b15, f_w_words := _, fd_w_words := _, F_w_words := F16, g_w_words := PySem.W.mg_of X G a16, b_w_words := b16, f_w_fit := _, fd_w_fit := _, F_w_fit := F17, g_w_fit := PySem.W.mg_of X G a17, b_w_fit := b17, f_w_just := _, fd_w_just := _, F_w_just := F18, g_w_just := PySem.W.mg_of X G a18, b_w_just := b18, f_w_chain := _, fd_w_chain := _, F_w_chain := F19, g_w_chain := PySem.W.mg_of X G a19, b_w_chain := b19, f_law := _, fd_law := _, F_law := F20, g_law := PySem.W.mg_of X G a20, b_law := b20, z_all := PySem.W.mg_none_of X G z_all, z_bool := PySem.W.mg_none_of X G z_bool, z_int := PySem.W.mg_none_of X G z_int, z_isinstance := PySem.W.mg_none_of X G z_isinstance, z_len := PySem.W.mg_none_of X G z_len, z_max := PySem.W.mg_none_of X G z_max, z_min := PySem.W.mg_none_of X G z_min, z_range := PySem.W.mg_none_of X G z_range, z_str := PySem.W.mg_none_of X G z_str, z_tuple := PySem.W.mg_none_of X G z_tuple, z_zip := PySem.W.mg_none_of X G z_zip, u_KEPT := _, v_KEPT := .ref aC_KEPT, g_KEPT := ⟨PySem.W.mg_of X G q_KEPT, rfl, fun B => cstTup_rep r_KEPT t_KEPT⟩, u_LETTERS := _, v_LETTERS := dV g_LETTERS, g_LETTERS := ⟨PySem.W.mg_of X G q_LETTERS, (cstV_rep (K := K) t_LETTERS).1, (cstV_rep (K := K) t_LETTERS).2⟩, u_MOST_DEEP := _, v_MOST_DEEP := dV g_MOST_DEEP, g_MOST_DEEP := ⟨PySem.W.mg_of X G q_MOST_DEEP, (cstV_rep (K := K) t_MOST_DEEP).1, (cstV_rep (K := K) t_MOST_DEEP).2⟩, u_MOST_LETTERS := _, v_MOST_LETTERS := dV g_MOST_LETTERS, g_MOST_LETTERS := ⟨PySem.W.mg_of X G q_MOST_LETTERS, (cstV_rep (K := K) t_MOST_LETTERS).1, (cstV_rep (K := K) t_MOST_LETTERS).2⟩, u_MOST_PARTS := _, v_MOST_PARTS := dV g_MOST_PARTS, g_MOST_PARTS := ⟨PySem.W.mg_of X G q_MOST_PARTS, (cstV_rep (K := K) t_MOST_PARTS).1, (cstV_rep (K := K) t_MOST_PARTS).2⟩, a_SIGNS := _, g_SIGNS := PySem.W.mg_of X G q_SIGNS, k_SIGNS := ⟨⟨_, _, r_SIGNS, h_SIGNS, t_SIGNS⟩, y_SIGNS⟩ }
  exact ⟨PySem.W.fnOf "law" "law" (defArgs s_law) (defBody s_law) (defScope s_law) .none kV20 dc20 pm20 an20 cd20 ct20, fun s v => .of_eq rfl, fun base _ _ => ok_law T⟩
end Cl
open PySem PySem.W PyProof.Rows
set_option maxHeartbeats 0 in
theorem PySem.Challenge.cw_gaprun_k10_terms_written_holds : PySem.Challenge.rw_gaprun_k10_terms_written.Holds := by
  w_on; o_law; k_head; (case hw => w_witness2)
  k_fill
  refine L2.walk_of (l := PySem.Challenge.rw_gaprun_k10_terms_written) (n := 63) (k := 47) (x := "_law_script") (CX := fun _ => L2.CX0) (sp := fun w => Dl.spD _ Cl.sp_law) rfl (by decide) rfl ⟨rfl, by decide, by decide⟩ (fun w h Y => PySem.W.kIn_of Y) ?F (fun _ H a ns hl _ hS => Dl.law_in hS (Cl.law_pre hl)) (fun _ _ _ _ _ h => h)
  case F =>
    intro w mg fa h KX G hmg
    refine' Cl.all_mk KX G hmg ?a0 ?l0 ?c0 ?k0 ?a1 ?l1 ?c1 ?k1 ?a2 ?l2 ?c2 ?k2 ?a3 ?l3 ?c3 ?k3 ?a4 ?l4 ?c4 ?k4 ?a5 ?l5 ?c5 ?k5 ?a6 ?l6 ?c6 ?k6 ?a7 ?l7 ?c7 ?k7 ?a8 ?l8 ?c8 ?k8 ?a9 ?l9 ?c9 ?k9 ?a10 ?l10 ?c10 ?k10 ?a11 ?l11 ?c11 ?k11 ?a12 ?l12 ?c12 ?k12 ?a13 ?l13 ?c13 ?k13 ?a14 ?l14 ?c14 ?k14 ?a15 ?l15 ?c15 ?k15 ?a16 ?l16 ?c16 ?k16 ?a17 ?l17 ?c17 ?k17 ?a18 ?l18 ?c18 ?k18 ?a19 ?l19 ?c19 ?k19 ?a20 ?l20 ?c20 ?k20 ?z_all ?z_bool ?z_int ?z_isinstance ?z_len ?z_max ?z_min ?z_range ?z_str ?z_tuple ?z_zip ?q_KEPT ?r_KEPT ?t_KEPT ?q_LETTERS ?t_LETTERS ?q_MOST_DEEP ?t_MOST_DEEP ?q_MOST_LETTERS ?t_MOST_LETTERS ?q_MOST_PARTS ?t_MOST_PARTS ?q_SIGNS ?r_SIGNS ?h_SIGNS ?t_SIGNS ?y_SIGNS
    (case a0 => k_is); (case l0 => k_is); (case c0 => k_is); (case k0 => k_is); (case a1 => k_is); (case l1 => k_is); (case c1 => k_is); (case k1 => k_is); (case a2 => k_is); (case l2 => k_is); (case c2 => k_is); (case k2 => k_is); (case a3 => k_is); (case l3 => k_is); (case c3 => k_is); (case k3 => k_is); (case a4 => k_is); (case l4 => k_is); (case c4 => k_is); (case k4 => k_is); (case a5 => k_is); (case l5 => k_is); (case c5 => k_is); (case k5 => k_is); (case a6 => k_is); (case l6 => k_is); (case c6 => k_is); (case k6 => k_is); (case a7 => k_is); (case l7 => k_is); (case c7 => k_is); (case k7 => k_is); (case a8 => k_is); (case l8 => k_is); (case c8 => k_is); (case k8 => k_is); (case a9 => k_is); (case l9 => k_is); (case c9 => k_is); (case k9 => k_is); (case a10 => k_is); (case l10 => k_is); (case c10 => k_is); (case k10 => k_is); (case a11 => k_is); (case l11 => k_is); (case c11 => k_is); (case k11 => k_is); (case a12 => k_is); (case l12 => k_is); (case c12 => k_is); (case k12 => k_is); (case a13 => k_is); (case l13 => k_is); (case c13 => k_is); (case k13 => k_is); (case a14 => k_is); (case l14 => k_is); (case c14 => k_is); (case k14 => k_is); (case a15 => k_is); (case l15 => k_is); (case c15 => k_is); (case k15 => k_is); (case a16 => k_is); (case l16 => k_is); (case c16 => k_is); (case k16 => k_is); (case a17 => k_is); (case l17 => k_is); (case c17 => k_is); (case k17 => k_is); (case a18 => k_is); (case l18 => k_is); (case c18 => k_is); (case k18 => k_is); (case a19 => k_is); (case l19 => k_is); (case c19 => k_is); (case k19 => k_is); (case a20 => k_is); (case l20 => k_is); (case c20 => k_is); (case k20 => k_is); (case z_all => k_is); (case z_bool => k_is); (case z_int => k_is); (case z_isinstance => k_is); (case z_len => k_is); (case z_max => k_is); (case z_min => k_is); (case z_range => k_is); (case z_str => k_is); (case z_tuple => k_is); (case z_zip => k_is); (case q_KEPT => k_is); (case r_KEPT => k_is); (case t_KEPT => decide +kernel); (case q_LETTERS => k_is); (case t_LETTERS => decide +kernel); (case q_MOST_DEEP => k_is); (case t_MOST_DEEP => decide +kernel); (case q_MOST_LETTERS => k_is); (case t_MOST_LETTERS => decide +kernel); (case q_MOST_PARTS => k_is); (case t_MOST_PARTS => decide +kernel); (case q_SIGNS => k_is); (case r_SIGNS => k_is); (case h_SIGNS => k_keys); (case t_SIGNS => rfl); (case y_SIGNS => rfl)
