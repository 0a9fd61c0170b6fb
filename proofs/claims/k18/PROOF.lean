import PyProof.Rows.All
import KE.KNestM
import HandS.EndTab
import Wide.All
import OpenK.AllK
import Wide.FinOn
import HandS.ForMost
import HandS.ForExc
import HandS.IsInst
import HandS.Style
import HandS.Flow
import HandS.Conv
import HandS.Wide
import HandS.TupAny
import KE.GoesMore
import HandS.Small
import HandS.WrittenGet
import PyProof.DictUpdate
import HandS.Lambda
import HandS.ExcIs
import HandS.ExcInit
import HandS.Set
import PyProof.Rows.SetFrom
import PyProof.Rows.SortShellAny
import HandS.TryOnly
import HandS.SortKw
import KE.DataMinMax
import HandS.DeepEq
import HandS.DictComp
import KE.KEqDict
import KE.KDictZip
import PyProof.ListNew
import KE.GoesEnum
import HandS.Finally
import HandS.More
import PyProof.ReprRoads
import PySem.Challenge.RW_gaprun_k18_letters_put
set_option Elab.async false
set_option linter.all false
set_option maxRecDepth 100000
set_option maxHeartbeats 8000000
/-! Dl1: data in the place of heaps. D data, Rep what bears it, Step what an evaluation may change, L an expression's reading by data. -/
namespace Dl
open PySem PySem.Spec PyProof.Rows L2
/-- Python's data -/
inductive D where
  | non | bl (b : Bool) | int (i : Int) | str (x : Str) | ty (n : String)
  | tup (l : List D) | lst (l : List D) | dic (l : List (Key × D))
  /-- a draw's dict: what it holds is left open -/
  | draw
  /-- a draw's list -/
  | drawl
  /-- a list of ints that is only read (the script) -/
  | scr (ns : List Int)
  /-- an object that is told by its address alone -/
  | obj (a : Addr)
  /-- a caught exception: its class, its field place -/
  | exc (x : Str) (pl : Option Int)
  /-- a lambda: its address, what was shared when it was made -/
  | clo (f : Addr) (B : Addr → Option HO)
/-- an exception's object -/
def ExX (cls : Value) (d : Option Addr) (a : Addr) : HO := .ext fun h => ∃ (oe : Obj) (vs : Array Value), h.get? a = some oe ∧ Zc cls d oe ∧ oe.data = .fields vs
/-- a draw's dict -/
def DrawD (o : HO) : Prop := ∃ (r m : Int) (more : List (Key × V)), o = .dK ((.inr "rest", .int r) :: (.inr "mixed", .int m) :: more) ∧ 0 ≤ r ∧ 0 ≤ m ∧ m < 2147483647 ∧ more.length ≤ 20 ∧ ∀ p ∈ more, p.1 ≠ .inr "rest" ∧ p.1 ≠ .inr "mixed"
/-- a draw's list: what stands in it is left open -/
def DrL (a : Addr) : HO := .ext fun h => ∃ (r m c : Int) (t u v : Tok) (n : Nat), h.get? a = some { cls := .type "list", data := .seq #[.int r t, .int m u, .int c v] n } ∧ 0 ≤ r ∧ 0 ≤ m ∧ m < 2147483647
/-- what may be changed though it is shared: draws, tables of code objects -/
def DrawO (o : HO) : Prop := DrawD o ∨ ∃ ps, o = .tbl ps
/-- what it may become -/
def Mv (o u : HO) : Prop := (DrawD o ∧ DrawD u) ∨ ((∃ ps, o = .tbl ps) ∧ ∃ ps, u = .tbl ps)
theorem Mv.refl {o : HO} : DrawO o → Mv o o
  | .inl d => .inl ⟨d, d⟩
  | .inr d => .inr ⟨d, d⟩
theorem Mv.trans {o u v : HO} (a : Mv o u) (b : Mv u v) : Mv o v := by
  rcases a with ⟨a, a2⟩ | ⟨a, a2⟩
  · rcases b with ⟨_, b⟩ | ⟨⟨ps, b⟩, _⟩
    · exact .inl ⟨a, b⟩
    · obtain ⟨_, _, _, e, _⟩ := a2; rw [b] at e; cases e
  · rcases b with ⟨b, _⟩ | ⟨_, b⟩
    · obtain ⟨_, _, _, e, _⟩ := b; obtain ⟨ps, e2⟩ := a2; rw [e2] at e; cases e
    · exact .inr ⟨a, b⟩
theorem notMv {o : HO} (h1 : ∀ l, o ≠ .dK l) (h2 : ∀ ps, o ≠ .tbl ps) : ¬ DrawO o
  | .inl ⟨_, _, _, e, _⟩ => h1 _ e
  | .inr ⟨_, e⟩ => h2 _ e
theorem DrawO.lst {xs : List V} : ¬ DrawO (.lst xs) := notMv (fun _ e => nomatch e) fun _ e => nomatch e
theorem DrawO.tup {xs : List V} : ¬ DrawO (.tup xs) := notMv (fun _ e => nomatch e) fun _ e => nomatch e
theorem DrawO.frz {o : Obj} {u : HO} : ¬ DrawO (.frz o u) := notMv (fun _ e => nomatch e) fun _ e => nomatch e
theorem DrawO.ext {φ : Heap → Prop} : ¬ DrawO (.ext φ) := notMv (fun _ e => nomatch e) fun _ e => nomatch e
theorem DrawO.xd {fs : List (Str × V)} : ¬ DrawO (.xd fs) := notMv (fun _ e => nomatch e) fun _ e => nomatch e
theorem DrawO.ins {C dx : Addr} {fs : List (Str × V)} : ¬ DrawO (.ins C dx fs) := notMv (fun _ e => nomatch e) fun _ e => nomatch e
theorem DrawO.own {a : Addr} : ¬ DrawO (.own a) := notMv (fun _ e => nomatch e) fun _ e => nomatch e
theorem DrawO.dK {kvs : List (Key × V)} (h : ¬ DrawD (.dK kvs)) : ¬ DrawO (.dK kvs)
  | .inl d => h d
  | .inr ⟨_, e⟩ => nomatch e
/-- the field place -/
def ExPl (B : Hp) (d : Option Addr) : Option Int → Prop
  | none => d = none
  | some i => ∃ a, d = some a ∧ B a = some (.xd [("place", .int i)])
/-- H has what B has (draws may have gone on) -/
def Kp (B H : Hp) : Prop := ∀ a o, B a = some o → (¬ DrawO o → H a = some o) ∧ (DrawO o → ∃ u, H a = some u ∧ Mv o u)
theorem Kp.refl (H : Hp) : Kp H H := fun _ o h => ⟨fun _ => h, fun d => ⟨o, h, .refl d⟩⟩
theorem Kp.trans {A B C : Hp} (f : Kp A B) (g : Kp B C) : Kp A C := fun a o h =>
  ⟨fun n => (g a o ((f a o h).1 n)).1 n, fun d => by
    obtain ⟨u, e, du⟩ := (f a o h).2 d
    by_cases d2 : DrawO u
    · obtain ⟨v, e2, dv⟩ := (g a u e).2 d2
      exact ⟨v, e2, du.trans dv⟩
    · exact ⟨u, (g a u e).1 d2, du⟩⟩
theorem Kp.draw {B H : Hp} (f : Kp B H) {a : Addr} {o : HO} (h : B a = some o) (d : DrawD o) : ∃ u, H a = some u ∧ DrawD u := by
  obtain ⟨u, e, m⟩ := (f a o h).2 (.inl d)
  refine ⟨u, e, ?_⟩
  rcases m with ⟨_, m⟩ | ⟨⟨ps, m⟩, _⟩
  · exact m
  · obtain ⟨_, _, _, e, _⟩ := d; rw [m] at e; cases e
theorem Kp.some {B H : Hp} (f : Kp B H) {a : Addr} {o : HO} (h : B a = some o) : ∃ u, H a = some u := by
  by_cases d : DrawO o
  · obtain ⟨u, e, _⟩ := (f a o h).2 d; exact ⟨u, e⟩
  · exact ⟨o, (f a o h).1 d⟩
theorem Kp.none {B H : Hp} (f : Kp B H) {a : Addr} (h : H a = none) : B a = none := by
  cases e : B a with
  | none => rfl
  | some o => obtain ⟨u, q⟩ := f.some e; rw [h] at q; cases q
theorem Kp.upd {B H : Hp} (f : Kp B H) {p : Addr} {o : HO} (h : B p = Option.none) : Kp B (upd H p o) := fun a u e => by
  have ne : a ≠ p := fun z => by rw [z, h] at e; cases e
  rw [upd_ne ne]
  exact f a u e
theorem Kp.upd2 {B H : Hp} (f : Kp B H) (p : Addr) (o : HO) : Kp (L2.upd B p o) (L2.upd H p o) := fun a u e => by
  by_cases z : a = p
  · subst z
    rw [upd_same] at e
    cases e
    rw [upd_same]
    exact ⟨fun _ => rfl, fun d => ⟨_, rfl, .refl d⟩⟩
  · rw [upd_ne z] at e
    rw [upd_ne z]
    exact f a u e
theorem Kp.new {B : Hp} {p : Addr} {o : HO} (h : B p = Option.none) : Kp B (L2.upd B p o) := (Kp.refl B).upd h
theorem kp_rd {B H : Hp} (f : Kp B H) {a : Addr} {u : HO} (n : ¬ DrawO u) (h : Rd B a u) : Rd H a u := by
  rcases h with h | ⟨o, h⟩
  · exact .inl ((f a _ h).1 n)
  · exact .inr ⟨o, (f a _ h).1 DrawO.frz⟩
theorem kp_t {K : PySem.W.Frag} {B H : Hp} (f : Kp B H) {a : Addr} {xs : List V} (h : SqT K B a xs) : SqT K H a xs := h.elim (fun h => .inl (kp_rd f DrawO.tup h)) .inr
theorem kp_l {K : PySem.W.Frag} {B H : Hp} (f : Kp B H) {a : Addr} {xs : List V} (h : SqL K B a xs) : SqL K H a xs := h.elim (fun h => .inl (kp_rd f DrawO.lst h)) .inr
section
variable (K : PySem.W.Frag) (B : Hp)
mutual
inductive Rep : V → D → Prop
  | non : Rep .non .non
  | bl (b : Bool) : Rep (.bl b) (.bl b)
  | int (i : Int) : Rep (.int i) (.int i)
  | str (x : Str) : Rep (.str x) (.str x)
  | ty (n : String) : Rep (.ty n) (.ty n)
  | tup {a : Addr} {vs : List V} {ds : List D} (h : SqT K B a vs) (r : RepL vs ds) : Rep (.ref a) (.tup ds)
  | lst {a : Addr} {vs : List V} {ds : List D} (h : B a = some (.lst vs)) (r : RepL vs ds) : Rep (.ref a) (.lst ds)
  | dic {a : Addr} {kvs : List (Key × V)} {kds : List (Key × D)} (h : B a = some (.dK kvs)) (n : ¬ DrawO (.dK kvs)) (r : RepK kvs kds) : Rep (.ref a) (.dic kds)
  | draw {a : Addr} {o : HO} (h : B a = some o) (d : DrawD o) : Rep (.ref a) .draw
  | drawl {a : Addr} (h : B a = some (DrL a)) : Rep (.ref a) .drawl
  | scr {a : Addr} {ns : List Int} (h : SqL K B a (ns.map V.int)) : Rep (.ref a) (.scr ns)
  | obj (a : Addr) : Rep (.ref a) (.obj a)
  | exc {a c : Addr} {x : Str} {d : Option Addr} {pl : Option Int} (hc : PySem.W.nsIn K mainGlobals x = some (some (.ref c))) (h : B a = some (ExX (.ref c) d a)) (hp : ExPl B d pl) : Rep (.ref a) (.exc x pl)
  | clo {f : Addr} {B0 : Hp} (h : Kp B0 B) : Rep (.ref f) (.clo f B0)
inductive RepL : List V → List D → Prop
  | nil : RepL [] []
  | cons {v : V} {vs : List V} {d : D} {ds : List D} (h : Rep v d) (r : RepL vs ds) : RepL (v :: vs) (d :: ds)
inductive RepK : List (Key × V) → List (Key × D) → Prop
  | nil : RepK [] []
  | cons {k : Key} {v : V} {vs : List (Key × V)} {d : D} {ds : List (Key × D)} (h : Rep v d) (r : RepK vs ds) : RepK ((k, v) :: vs) ((k, d) :: ds)
end
end
section
variable {K : PySem.W.Frag} {B H : Hp}
theorem ExPl.mono (f : Kp B H) {d : Option Addr} : ∀ {pl : Option Int}, ExPl B d pl → ExPl H d pl
  | none, h => h
  | some _, ⟨a, e, h⟩ => ⟨a, e, (f _ _ h).1 DrawO.xd⟩
mutual
theorem Rep.mono (f : Kp B H) : ∀ {v : V} {d : D}, Rep K B v d → Rep K H v d
  | _, _, .non => .non
  | _, _, .bl b => .bl b
  | _, _, .int i => .int i
  | _, _, .str x => .str x
  | _, _, .ty n => .ty n
  | _, _, .tup h r => .tup (kp_t f h) (RepL.mono f r)
  | _, _, .lst h r => .lst ((f _ _ h).1 DrawO.lst) (RepL.mono f r)
  | _, _, .dic h n r => .dic ((f _ _ h).1 n) n (RepK.mono f r)
  | _, _, .draw h d => let ⟨_, e, du⟩ := f.draw h d; .draw e du
  | _, _, .drawl h => .drawl ((f _ _ h).1 DrawO.ext)
  | _, _, .scr h => .scr (kp_l f h)
  | _, _, .obj a => .obj a
  | _, _, .exc hc h hp => .exc hc ((f _ _ h).1 DrawO.ext) (hp.mono f)
  | _, _, .clo h => .clo (h.trans f)
theorem RepL.mono (f : Kp B H) : ∀ {vs : List V} {ds : List D}, RepL K B vs ds → RepL K H vs ds
  | _, _, .nil => .nil
  | _, _, .cons h r => .cons (Rep.mono f h) (RepL.mono f r)
theorem RepK.mono (f : Kp B H) : ∀ {vs : List (Key × V)} {ds : List (Key × D)}, RepK K B vs ds → RepK K H vs ds
  | _, _, .nil => .nil
  | _, _, .cons h r => .cons (Rep.mono f h) (RepK.mono f r)
end
theorem RepL.length : ∀ {vs : List V} {ds : List D}, RepL K B vs ds → vs.length = ds.length
  | _, _, .nil => rfl
  | _, _, .cons _ r => congrArg (· + 1) (RepL.length r)
theorem RepL.append : ∀ {vs ws : List V} {ds es : List D}, RepL K B vs ds → RepL K B ws es → RepL K B (vs ++ ws) (ds ++ es)
  | _, _, _, _, .nil, s => s
  | _, _, _, _, .cons h r, s => .cons h (RepL.append r s)
theorem RepL.get : ∀ {vs : List V} {ds : List D} {i : Nat} {d : D}, RepL K B vs ds → ds[i]? = some d → ∃ v, vs[i]? = some v ∧ Rep K B v d
  | _, _, _, _, .nil, e => by simp at e
  | _, _, 0, _, .cons h _, e => by simp at e; subst e; exact ⟨_, rfl, h⟩
  | _, _, i + 1, d, .cons _ r, e => by
    obtain ⟨v, h1, h2⟩ := RepL.get (i := i) (d := d) r (by simpa using e)
    exact ⟨v, by simpa using h1, h2⟩
theorem RepL.getV : ∀ {vs : List V} {ds : List D} {i : Nat} {v : V}, RepL K B vs ds → vs[i]? = some v → ∃ d, ds[i]? = some d ∧ Rep K B v d
  | _, _, _, _, .nil, e => by simp at e
  | _, _, 0, _, .cons h _, e => by simp at e; subst e; exact ⟨_, rfl, h⟩
  | _, _, i + 1, d, .cons _ r, e => by
    obtain ⟨v, h1, h2⟩ := RepL.getV (i := i) (v := d) r (by simpa using e)
    exact ⟨v, by simpa using h1, h2⟩
theorem RepL.take : ∀ {vs : List V} {ds : List D} (n : Nat), RepL K B vs ds → RepL K B (vs.take n) (ds.take n)
  | _, _, 0, _ => .nil
  | _, _, _ + 1, .nil => .nil
  | _, _, n + 1, .cons h r => .cons h (RepL.take n r)
theorem RepL.drop : ∀ {vs : List V} {ds : List D} (n : Nat), RepL K B vs ds → RepL K B (vs.drop n) (ds.drop n)
  | _, _, 0, r => r
  | _, _, _ + 1, .nil => .nil
  | _, _, n + 1, .cons _ r => RepL.drop n r
theorem RepL.set {v : V} {d : D} (h : Rep K B v d) : ∀ {vs : List V} {ds : List D} (n : Nat), RepL K B vs ds → RepL K B (vs.set n v) (ds.set n d)
  | _, _, _, .nil => .nil
  | _, _, 0, .cons _ t => .cons h t
  | _, _, n + 1, .cons q t => .cons q (RepL.set h n t)
theorem RepL.ints : ∀ ns : List Int, RepL K B (ns.map V.int) (ns.map D.int)
  | [] => .nil
  | i :: r => .cons (.int i) (RepL.ints r)
theorem RepL.strs : ∀ ns : List Str, RepL K B (ns.map V.str) (ns.map D.str)
  | [] => .nil
  | i :: r => .cons (.str i) (RepL.strs r)
end
/-- what an evaluation may change: B (what is shared) grows, H has it, all else stands and stays apart -/
structure Step (B H B' H' : Hp) : Prop where
  kp : Kp B B'
  sub : Kp B' H'
  out : ∀ a o, H a = some o → B a = none → H' a = some o ∧ B' a = none
theorem Step.refl {B H : Hp} (k : Kp B H) : Step B H B H := ⟨.refl B, k, fun _ _ h n => ⟨h, n⟩⟩
theorem Step.trans {B H B1 H1 B2 H2 : Hp} (a : Step B H B1 H1) (b : Step B1 H1 B2 H2) : Step B H B2 H2 :=
  ⟨a.kp.trans b.kp, b.sub, fun x o h n => let ⟨h1, n1⟩ := a.out x o h n; b.out x o h1 n1⟩
theorem Step.has {B H B' H' : Hp} (s : Step B H B' H') {a : Addr} {o : HO} (h : H a = some o) : ∃ u, H' a = some u := by
  cases e : B a with
  | none => exact ⟨o, (s.out a o h e).1⟩
  | some u =>
    obtain ⟨w, q⟩ := s.kp.some e
    exact s.sub.some q
theorem Step.free {B H B' H' : Hp} (s : Step B H B' H') {a : Addr} (h : H' a = none) : H a = none := by
  cases e : H a with
  | none => rfl
  | some o => obtain ⟨u, q⟩ := s.has e; rw [h] at q; cases q
/-- a new thing that is shared -/
theorem Step.new {B H : Hp} (k : Kp B H) {p : Addr} {o : HO} (n : H p = none) : Step B H (upd B p o) (upd H p o) :=
  ⟨.new (k.none n), k.upd2 p o, fun a u h nb => by
    have ne : a ≠ p := ne_of_none h n
    rw [upd_ne ne, upd_ne ne]
    exact ⟨h, nb⟩⟩
/-- a new thing that is not yet shared -/
theorem Step.tmp {B H : Hp} (k : Kp B H) {p : Addr} {o : HO} (n : H p = none) : Step B H B (upd H p o) :=
  ⟨.refl B, k.upd (k.none n), fun a u h nb => by
    have ne : a ≠ p := ne_of_none h n
    rw [upd_ne ne]
    exact ⟨h, nb⟩⟩
/-- a draw goes on -/
theorem Step.draw {B H : Hp} (k : Kp B H) {d : Addr} {o u : HO} (h : B d = some o) (dr : DrawO o) (du : Mv o u) : Step B H B (upd H d u) :=
  ⟨.refl B, fun a v e => by
    by_cases z : a = d
    · subst z
      rw [h] at e
      cases e
      rw [upd_same]
      exact ⟨fun n => absurd dr n, fun _ => ⟨_, rfl, du⟩⟩
    · rw [upd_ne z]
      exact k a v e, fun a v e nb => by
    have z : a ≠ d := fun z => by rw [z, h] at nb; cases nb
    rw [upd_ne z]
    exact ⟨e, nb⟩⟩
/-- what a container holds that is not shared yet -/
inductive Ct where
  | lst (l : List D) | dic (l : List (Key × D))
def Ct.d : Ct → D
  | .lst l => .lst l
  | .dic l => .dic l
/-- an expression's value: shared data, or a container that has one owner -/
inductive Val where
  | dat (d : D) | tmp (c : Ct)
def Val.d : Val → D
  | .dat d => d
  | .tmp c => c.d
def RepC (K : PySem.W.Frag) (B H : Hp) (p : Addr) : Ct → Prop
  | .lst ds => ∃ vs, H p = some (.lst vs) ∧ RepL K B vs ds
  | .dic kds => ∃ kvs, H p = some (.dK kvs) ∧ RepK K B kvs kds
def RepV (K : PySem.W.Frag) (B H : Hp) (v : V) : Val → Prop
  | .dat d => Rep K B v d
  | .tmp c => ∃ p, v = .ref p ∧ B p = none ∧ RepC K B H p c
theorem RepC.has {K : PySem.W.Frag} {B H : Hp} {p : Addr} {c : Ct} (h : RepC K B H p c) : ∃ o, H p = some o := by
  cases c with
  | lst ds => obtain ⟨vs, e, _⟩ := h; exact ⟨_, e⟩
  | dic ds => obtain ⟨vs, e, _⟩ := h; exact ⟨_, e⟩
theorem RepC.move {K : PySem.W.Frag} {B H B' H' : Hp} {p : Addr} {c : Ct} (k : Kp B B') (e : ∀ o, H p = some o → H' p = some o) (h : RepC K B H p c) : RepC K B' H' p c := by
  cases c with
  | lst ds => obtain ⟨vs, q, r⟩ := h; exact ⟨vs, e _ q, r.mono k⟩
  | dic ds => obtain ⟨vs, q, r⟩ := h; exact ⟨vs, e _ q, r.mono k⟩
theorem RepV.step {K : PySem.W.Frag} {B H B' H' : Hp} {v : V} {x : Val} (s : Step B H B' H') (h : RepV K B H v x) : RepV K B' H' v x := by
  cases x with
  | dat d => exact Rep.mono s.kp h
  | tmp c =>
    obtain ⟨p, rfl, n, r⟩ := h
    obtain ⟨o, ho⟩ := r.has
    have q := s.out p o ho n
    exact ⟨p, rfl, q.2, r.move s.kp fun u hu => by rw [ho] at hu; cases hu; exact q.1⟩
/-- a value's own container is new -/
def Fr (H : Hp) (v : V) (x : Val) : Prop := ∀ p c, v = .ref p → x = .tmp c → H p = none
theorem Fr.dat {H : Hp} {v : V} {d : D} : Fr H v (.dat d) := fun _ _ _ e => nomatch e
/-! ### a frame's names -/
abbrev DEnv := List (Option Val)
def lk : DEnv → Nat → Option Val
  | [], _ => none
  | x :: _, 0 => x
  | _ :: r, i + 1 => lk r i
def st : DEnv → Nat → Option Val → DEnv
  | [], _, _ => []
  | _ :: r, 0, v => v :: r
  | x :: r, i + 1, v => x :: st r i v
theorem st_length (v : Option Val) : ∀ (e : DEnv) (i : Nat), (st e i v).length = e.length
  | [], _ => rfl
  | _ :: _, 0 => rfl
  | _ :: r, i + 1 => congrArg (· + 1) (st_length v r i)
theorem lk_lt : ∀ {e : DEnv} {i : Nat} {v : Val}, lk e i = some v → i < e.length
  | [], _, _, h => nomatch h
  | _ :: _, 0, _, _ => Nat.succ_pos _
  | _ :: r, i + 1, v, h => Nat.succ_lt_succ (lk_lt (e := r) (i := i) (v := v) h)
theorem lk_st_same {v : Option Val} : ∀ {e : DEnv} {i : Nat}, i < e.length → lk (st e i v) i = v
  | [], _, h => absurd h (Nat.not_lt_zero _)
  | _ :: _, 0, _ => rfl
  | _ :: r, i + 1, h => lk_st_same (e := r) (i := i) (Nat.lt_of_succ_lt_succ h)
theorem lk_st_ne {v : Option Val} : ∀ {e : DEnv} {i j : Nat}, i ≠ j → lk (st e i v) j = lk e j
  | [], _, _, _ => rfl
  | _ :: _, 0, 0, h => absurd rfl h
  | _ :: _, 0, _ + 1, _ => rfl
  | _ :: _, _ + 1, 0, _ => rfl
  | _ :: r, i + 1, j + 1, h => lk_st_ne (e := r) (i := i) (j := j) fun z => h (by rw [z])
/-- the frame's own containers -/
def Owns (s : L2.St) (r : DEnv) (a : Addr) : Prop := ∃ i c, lk r i = some (.tmp c) ∧ s[i]? = some (some (.ref a))
structure EnvRep (K : PySem.W.Frag) (B H : Hp) (s : L2.St) (r : DEnv) : Prop where
  len : s.length = r.length
  at_ : ∀ i x, lk r i = some x → ∃ v, s[i]? = some (some v) ∧ RepV K B H v x
  dis : ∀ i j c c' a, lk r i = some (.tmp c) → lk r j = some (.tmp c') → s[i]? = some (some (.ref a)) → s[j]? = some (some (.ref a)) → i = j
section
variable {K : PySem.W.Frag} {B H B' H' : Hp} {s : L2.St} {r : DEnv}
theorem EnvRep.step (z : Step B H B' H') (e : EnvRep K B H s r) : EnvRep K B' H' s r :=
  ⟨e.len, fun i x h => let ⟨v, q, w⟩ := e.at_ i x h; ⟨v, q, w.step z⟩, e.dis⟩
theorem EnvRep.owned (e : EnvRep K B H s r) {a : Addr} (h : Owns s r a) : B a = none ∧ ∃ o, H a = some o := by
  obtain ⟨i, c, h1, h2⟩ := h
  obtain ⟨v, q, p, rfl, n, w⟩ := e.at_ i _ h1
  rw [h2] at q
  cases q
  exact ⟨n, w.has⟩
theorem EnvRep.set (e : EnvRep K B H s r) {i : Nat} {v : V} {x : Val} (h : RepV K B H v x) (f : ∀ a c, v = .ref a → x = .tmp c → ¬ Owns s r a) : EnvRep K B H (s.set i (some v)) (st r i (some x)) := by
  refine ⟨by rw [List.length_set, st_length, e.len], fun j y hj => ?_, fun j k c c' a h1 h2 h3 h4 => ?_⟩
  · by_cases z : i = j
    · subst z
      have hl := lk_lt hj
      rw [st_length] at hl
      rw [lk_st_same hl] at hj
      cases hj
      exact ⟨v, by rw [List.getElem?_set_self (by rw [e.len]; exact hl)], h⟩
    · rw [lk_st_ne z] at hj
      rw [List.getElem?_set_ne z]
      exact e.at_ j y hj
  · by_cases z : i = j
    · subst z
      by_cases z2 : i = k
      · exact z2
      · have hl := lk_lt h1
        rw [st_length] at hl
        rw [lk_st_same hl] at h1
        rw [lk_st_ne z2] at h2
        rw [List.getElem?_set_self (by rw [e.len]; exact hl)] at h3
        rw [List.getElem?_set_ne z2] at h4
        cases h1
        cases h3
        exact absurd ⟨k, c', h2, h4⟩ (f a c rfl rfl)
    · by_cases z2 : i = k
      · subst z2
        have hl := lk_lt h2
        rw [st_length] at hl
        rw [lk_st_same hl] at h2
        rw [lk_st_ne z] at h1
        rw [List.getElem?_set_self (by rw [e.len]; exact hl)] at h4
        rw [List.getElem?_set_ne z] at h3
        cases h2
        cases h4
        exact absurd ⟨j, c, h1, h3⟩ (f a c' rfl rfl)
      · rw [lk_st_ne z] at h1
        rw [lk_st_ne z2] at h2
        rw [List.getElem?_set_ne z] at h3
        rw [List.getElem?_set_ne z2] at h4
        exact e.dis j k c c' a h1 h2 h3 h4
end
/-! ### exceptions by data: the class, the field place -/
abbrev Exc := Str × Option Int
/-- the class that the module's top names x -/
def ClsAt (K : PySem.W.Frag) (x : Str) (c : Addr) : Prop := PySem.W.nsIn K mainGlobals x = some (some (.ref c))
def ExcRep (K : PySem.W.Frag) (B : Hp) (cls : Value) (d : Option Addr) (e : Exc) : Prop := (∃ c, cls = .ref c ∧ ClsAt K e.1 c) ∧ ExPl B d e.2
abbrev DX := Exc → DEnv → Prop
/-! ### what a statement may change -/
structure StepS (B H : Hp) (s : L2.St) (r : DEnv) (B' H' : Hp) (s' : L2.St) (r' : DEnv) : Prop where
  kp : Kp B B'
  sub : Kp B' H'
  out : ∀ a o, H a = some o → B a = none → ¬ Owns s r a → H' a = some o ∧ B' a = none ∧ ¬ Owns s' r' a
  has : ∀ a o, H a = some o → ∃ u, H' a = some u
theorem StepS.refl {B H : Hp} {s : L2.St} {r : DEnv} (k : Kp B H) : StepS B H s r B H s r := ⟨.refl B, k, fun _ _ h n w => ⟨h, n, w⟩, fun _ o h => ⟨o, h⟩⟩
theorem StepS.trans {B H B1 H1 B2 H2 : Hp} {s s1 s2 : L2.St} {r r1 r2 : DEnv} (a : StepS B H s r B1 H1 s1 r1) (b : StepS B1 H1 s1 r1 B2 H2 s2 r2) : StepS B H s r B2 H2 s2 r2 :=
  ⟨a.kp.trans b.kp, b.sub, fun x o h n w => let ⟨h1, n1, w1⟩ := a.out x o h n w; b.out x o h1 n1 w1, fun x o h => let ⟨u, hu⟩ := a.has x o h; b.has x u hu⟩
theorem Step.s {B H B' H' : Hp} {s : L2.St} {r : DEnv} (z : Step B H B' H') : StepS B H s r B' H' s r := ⟨z.kp, z.sub, fun a o h n w => ⟨(z.out a o h n).1, (z.out a o h n).2, w⟩, fun _ _ h => z.has h⟩
/-! ### the readings by data -/
abbrev DE := DX → DEnv → (Val → Prop) → Prop
abbrev DT := DX → DEnv → (Bool → Prop) → Prop
abbrev DA := DX → DEnv → (List D → Prop) → Prop
abbrev DI := DX → DEnv → (List D → Prop) → Prop
structure DEnds where
  nx : DEnv → Prop
  rt : Val → Prop
  bk : DEnv → Prop := fun _ => False
  ct : DEnv → Prop := fun _ => False
abbrev DS := DX → DEnds → DEnv → Prop
/-- an expression; fr: its own container is new (else it may be a name's) -/
def L (K : PySem.W.Frag) (W : WX) (fr : Bool) (de : DE) : TE := fun s H Q => ∃ B r xc P, Kp B H ∧ EnvRep K B H s r ∧ de xc r P ∧
  (∀ cls d e H' B', Step B H B' H' → ExcRep K B' cls d e → xc e r → W cls d s H') ∧
  ∀ v x H' B', Step B H B' H' → RepV K B' H' v x → (fr = true → Fr H v x) → P x → Q v H'
def LT (K : PySem.W.Frag) (W : WX) (dt : DT) : TT := fun s H Q => ∃ B r xc P, Kp B H ∧ EnvRep K B H s r ∧ dt xc r P ∧
  (∀ cls d e H' B', Step B H B' H' → ExcRep K B' cls d e → xc e r → W cls d s H') ∧
  ∀ b H' B', Step B H B' H' → P b → Q b H'
def LA (K : PySem.W.Frag) (W : WX) (da : DA) : TA := fun s H Q => ∃ B r xc P, Kp B H ∧ EnvRep K B H s r ∧ da xc r P ∧
  (∀ cls d e H' B', Step B H B' H' → ExcRep K B' cls d e → xc e r → W cls d s H') ∧
  ∀ vs ds H' B', Step B H B' H' → RepL K B' vs ds → P ds → Q vs H'
/-- an iterator that gives just these things, as long as what is at src stands -/
def ItOk (K : PySem.W.Frag) (J : It) (ds : List D) (B H : Hp) (src : Addr → Prop) : Prop := ∀ B2 H2 (i : Nat), Kp B B2 → Kp B2 H2 → (∀ p o, src p → H p = some o → H2 p = some o ∧ B2 p = none) →
  (∀ d, ds[i]? = some d → J.go i H2 ∧ ∀ x H3, J.yld i H2 x H3 → ∃ B3, Step B2 H2 B3 H3 ∧ Rep K B3 x d) ∧ (ds.length = i → J.stop i H2)
def LI (K : PySem.W.Frag) (W : WX) (di : DI) : TI := fun s H R => ∃ B r xc P, Kp B H ∧ EnvRep K B H s r ∧ di xc r P ∧
  (∀ cls d e H' B', Step B H B' H' → ExcRep K B' cls d e → xc e r → W cls d s H') ∧
  ∀ J ds H' B' src, Step B H B' H' → (∀ p, src p → H p = none ∧ B' p = none ∧ ∃ o, H' p = some o ∧ ∀ φ, o ≠ .ext φ) → ItOk K J ds B' H' src → P ds → R J H'
def LS (K : PySem.W.Frag) (W : WX) (ds : DS) : TS := fun E s H => ∃ B r xc De, Kp B H ∧ EnvRep K B H s r ∧ ds xc De r ∧
  (∀ cls d e s' r' H' B', StepS B H s r B' H' s' r' → EnvRep K B' H' s' r' → ExcRep K B' cls d e → xc e r' → W cls d s' H') ∧
  (∀ s' r' H' B', StepS B H s r B' H' s' r' → EnvRep K B' H' s' r' → De.nx r' → E.nx s' H') ∧
  (∀ s' r' H' B', StepS B H s r B' H' s' r' → EnvRep K B' H' s' r' → De.bk r' → E.bk s' H') ∧
  (∀ s' r' H' B', StepS B H s r B' H' s' r' → EnvRep K B' H' s' r' → De.ct r' → E.ct s' H') ∧
  ∀ v x H' B', StepS B H s r B' H' [some v] [some x] → RepV K B' H' v x → De.rt x → E.rt v H'
/-- what a def promises, by data -/
abbrev DSp := List D → (Exc → Prop) → (Val → Prop) → Prop
def spD (K : PySem.W.Frag) (sp : DSp) : Sp := fun vs H Q E => ∃ B ds xc P, Kp B H ∧ RepL K B vs ds ∧ sp ds xc P ∧
  (∀ cls d e H' B', Step B H B' H' → ExcRep K B' cls d e → xc e → E cls d H') ∧
  ∀ v x H' B', Step B H B' H' → RepV K B' H' v x → Fr H v x → P x → Q v H'
end Dl
/-! Dl2: expressions read by data: names, constants, operators, tests, displays. -/
namespace Dl
open PySem PySem.Spec PyProof.Rows L2
section
variable {X : Cx}
theorem imE {e : Expr} {t u : TE} (h : PE X e t) (f : ∀ s H Q, u s H Q → t s H Q) : PE X e u := ⟨fun pins s r H Q I q => h.run pins s r H Q I (f _ _ _ q)⟩
theorem imT {e : Expr} {t u : TT} (h : PT X e t) (f : ∀ s H Q, u s H Q → t s H Q) : PT X e u := ⟨fun pins s r H Q I q => h.run pins s r H Q I (f _ _ _ q)⟩
theorem imW {e : Expr} {t u : TT} (h : PW X e t) (f : ∀ s H Q, u s H Q → t s H Q) : PW X e u := ⟨fun w pins s r H Q I q => h.run w pins s r H Q I (f _ _ _ q)⟩
theorem imA {e : List Expr} {t u : TA} (h : PA X e t) (f : ∀ s H Q, u s H Q → t s H Q) : PA X e u := ⟨fun pos pins s r H Q I q => h.run pos pins s r H Q I (f _ _ _ q)⟩
theorem imS {e : Stmt} {t u : TS} (h : PS X e t) (f : ∀ s H Q, u s H Q → t s H Q) : PS X e u := ⟨fun pins s r H Q I q => h.run pins s r H Q I (f _ _ _ q)⟩
theorem imSs {e : List Stmt} {t u : TS} (h : PSs X e t) (f : ∀ s H Q, u s H Q → t s H Q) : PSs X e u := ⟨fun pins s r H Q I q => h.run pins s r H Q I (f _ _ _ q)⟩
theorem imI {tg e : Expr} {t u : TI} (h : PI X tg e t) (f : ∀ s H Q, u s H Q → t s H Q) : PI X tg e u := ⟨fun pins s r H Q I q => h.run pins s r H Q I (f _ _ _ q)⟩
end
theorem Fr.back {B H B' H' : Hp} {v : V} {x : Val} (s : Step B H B' H') (f : Fr H' v x) : Fr H v x := fun p c e1 e2 => s.free (f p c e1 e2)
section
variable {X : Cx} {W : WX}
theorem q_weak {e : Expr} {de : DE} (h : PE X e (L X.K W true de)) : PE X e (L X.K W false de) :=
  imE h fun s H Q ⟨B, r, xc, P, k, en, d, hx, hq⟩ => ⟨B, r, xc, P, k, en, d, hx, fun v x H' B' st rv _ p => hq v x H' B' st rv (fun z => nomatch z) p⟩
/-! ### names, constants -/
def dC (d : D) : DE := fun _ _ P => P (.dat d)
theorem l_c {s : L2.St} {H : Hp} {Q : VK} {v : V} {d : D} (rep : ∀ B, Rep X.K B v d) (h : L X.K W true (dC d) s H Q) : Q v H := by
  obtain ⟨B, r, xc, P, k, en, p, hx, hq⟩ := h
  exact hq v (.dat d) H B (.refl k) (rep B) (fun _ => Fr.dat) p
theorem q_int {i : Int} {j : Nat} {pos : Pos} : PE X (.Constant (.int i) j pos) (L X.K W true (dC (.int i))) := imE pe_int fun _ _ _ h => l_c (fun _ => .int i) h
theorem q_bl {i : Bool} {j : Nat} {pos : Pos} : PE X (.Constant (.bool i) j pos) (L X.K W true (dC (.bl i))) := imE pe_bl fun _ _ _ h => l_c (fun _ => .bl i) h
theorem q_non {j : Nat} {pos : Pos} : PE X (.Constant .none j pos) (L X.K W true (dC .non)) := imE pe_non fun _ _ _ h => l_c (fun _ => .non) h
theorem q_str {i : Str} {j : Nat} {pos : Pos} : PE X (.Constant (.str i) j pos) (L X.K W true (dC (.str i))) := imE pe_str fun _ _ _ h => l_c (fun _ => .str i) h
theorem q_glob {x : Str} {pos : Pos} {v : V} {u : Value} {d : D} (hg : Gl X x) (hm : X.mg x = some u) (r : RelV v u) (rep : ∀ B, Rep X.K B v d) (hd : (x == ("__debug__" : Str)) = false := by decide) :
    PE X (.Name x pos) (L X.K W true (dC d)) := imE (pe_glob hg hm r hd) fun _ _ _ h => l_c rep h
theorem q_ty {x : Str} {pos : Pos} {n : String} (hg : Gl X x) (hm : X.mg x = none) (hv : bootBuiltins x = some (.type n)) (hn : x ≠ "__name__" := by decide) (hd : (x == ("__debug__" : Str)) = false := by decide) :
    PE X (.Name x pos) (L X.K W true (dC (.ty n))) := imE (pe_bltn (v := .ty n) hg hm hv rfl hn hd) fun _ _ _ h => l_c (fun _ => .ty n) h
def dVar (i : Nat) : DE := fun _ r P => match lk r i with
  | some x => P x
  | none => False
def dVarM (i : Nat) : DE := fun _ r P => match lk r i with
  | some (.dat d) => P (.dat d)
  | _ => False
theorem q_var (i : Nat) {x : Str} {pos : Pos} (hN : X.N[i]? = some x := by rfl) (hv : Vis X.env.scope x := by first | exact Or.inl rfl | exact Or.inr (Or.inl rfl) | exact Or.inr (Or.inr rfl)) (hd : (x == ("__debug__" : Str)) = false := by decide)
    (hcd : (x == ("__classdict__" : Str)) = false := by decide) : PE X (.Name x pos) (L X.K W false (dVar i)) := imE (pv i hN hv hd hcd) fun s H Q ⟨B, r, xc, P, k, en, p, hx, hq⟩ => by
  unfold dVar at p
  cases e : lk r i with
  | none => rw [e] at p; exact p.elim
  | some y =>
    rw [e] at p
    obtain ⟨v, h1, h2⟩ := en.at_ i y e
    exact ⟨v, h1, hq v y H B (.refl k) h2 (fun z => nomatch z) p⟩
theorem q_varM (i : Nat) {x : Str} {pos : Pos} (hN : X.N[i]? = some x := by rfl) (hv : Vis X.env.scope x := by first | exact Or.inl rfl | exact Or.inr (Or.inl rfl) | exact Or.inr (Or.inr rfl)) (hd : (x == ("__debug__" : Str)) = false := by decide)
    (hcd : (x == ("__classdict__" : Str)) = false := by decide) : PE X (.Name x pos) (L X.K W true (dVarM i)) := imE (pv i hN hv hd hcd) fun s H Q ⟨B, r, xc, P, k, en, p, hx, hq⟩ => by
  unfold dVarM at p
  cases e : lk r i with
  | none => rw [e] at p; exact p.elim
  | some y =>
    rw [e] at p
    cases y with
    | tmp c => exact p.elim
    | dat d =>
      obtain ⟨v, h1, h2⟩ := en.at_ i _ e
      exact ⟨v, h1, hq v _ H B (.refl k) h2 (fun _ => Fr.dat) p⟩
/-! ### the shape of a rule on two values, on one -/
abbrev F2 := Val → Val → (Val → Prop) → Prop
abbrev F1 := Val → (Val → Prop) → Prop
/-- an answer of an operation, by data -/
def Ans (K : PySem.W.Frag) (B H : Hp) (P : Val → Prop) (Q : VK) : Prop := ∀ v x H' B', Step B H B' H' → RepV K B' H' v x → Fr H v x → P x → Q v H'
def RelR (K : PySem.W.Frag) (r : R2) (f : F2) : Prop := ∀ (B H : Hp) (x y : V) (vx vy : Val) (P : Val → Prop) (Q : VK), Kp B H → RepV K B H x vx → RepV K B H y vy → f vx vy P → Ans K B H P Q → r x y H Q
def RelU (K : PySem.W.Frag) (r : V → Hp → VK → Prop) (f : F1) : Prop := ∀ (B H : Hp) (x : V) (vx : Val) (P : Val → Prop) (Q : VK), Kp B H → RepV K B H x vx → f vx P → Ans K B H P Q → r x H Q
theorem Ans.dat {K : PySem.W.Frag} {B H : Hp} {P : Val → Prop} {Q : VK} (a : Ans K B H P Q) (k : Kp B H) {v : V} {d : D} (r : Rep K B v d) (p : P (.dat d)) : Q v H := a v (.dat d) H B (.refl k) r Fr.dat p
theorem Ans.newL {K : PySem.W.Frag} {B H : Hp} {P : Val → Prop} {Q : VK} (a : Ans K B H P Q) (k : Kp B H) {vs : List V} {ds : List D} (r : RepL K B vs ds) (p : P (.tmp (.lst ds))) {q : Addr} (n : H q = none) : Q (.ref q) (upd H q (.lst vs)) :=
  a (.ref q) (.tmp (.lst ds)) _ B (.tmp k n) ⟨q, rfl, k.none n, vs, upd_same, r⟩ (fun _ _ e _ => by cases e; exact n) p
theorem Ans.newT {K : PySem.W.Frag} {B H : Hp} {P : Val → Prop} {Q : VK} (a : Ans K B H P Q) (k : Kp B H) {vs : List V} {ds : List D} (r : RepL K B vs ds) (p : P (.dat (.tup ds))) {q : Addr} (n : H q = none) : Q (.ref q) (upd H q (.tup vs)) :=
  a (.ref q) (.dat (.tup ds)) _ (upd B q (.tup vs)) (.new k n) (.tup (.inl (.inl upd_same)) (r.mono (Kp.new (k.none n)))) Fr.dat p
def dOp (f : F2) (da db : DE) : DE := fun xc r P => da xc r fun x => db xc r fun y => f x y P
def dUn (f : F1) (da : DE) : DE := fun xc r P => da xc r fun x => f x P
theorem l_op {rr : R2} {f : F2} {da db : DE} {fa fb : Bool} (hr : RelR X.K rr f) (s : L2.St) (H : Hp) (Q : VK) (h : L X.K W true (dOp f da db) s H Q) : tOp rr (L X.K W fa da) (L X.K W fb db) s H Q := by
  obtain ⟨B, r, xc, P, k, en, h, hx, hq⟩ := h
  refine ⟨B, r, xc, fun x => db xc r fun y => f x y P, k, en, h, hx, fun x vx H1 B1 s1 rx _ h1 => ?_⟩
  refine ⟨B1, r, xc, fun y => f vx y P, s1.sub, en.step s1, h1, fun cls d e H' B' st => hx cls d e H' B' (s1.trans st), fun y vy H2 B2 s2 ry _ h2 => ?_⟩
  exact hr B2 H2 x y vx vy P Q s2.sub (rx.step s2) ry h2 fun v z H3 B3 s3 rv fr p => hq v z H3 B3 ((s1.trans s2).trans s3) rv (fun _ => (fr.back s2).back s1) p
theorem l_un {rr : V → Hp → VK → Prop} {f : F1} {da : DE} {fa : Bool} (hr : RelU X.K rr f) (s : L2.St) (H : Hp) (Q : VK) (h : L X.K W true (dUn f da) s H Q) : tUn rr (L X.K W fa da) s H Q := by
  obtain ⟨B, r, xc, P, k, en, h, hx, hq⟩ := h
  refine ⟨B, r, xc, fun x => f x P, k, en, h, hx, fun x vx H1 B1 s1 rx _ h1 => ?_⟩
  exact hr B1 H1 x vx P Q s1.sub rx h1 fun v z H3 B3 s3 rv fr p => hq v z H3 B3 (s1.trans s3) rv (fun _ => fr.back s1) p
theorem q_op {a b : Expr} {op : Operator} {pos : Pos} {rr : R2} {f : F2} {da db : DE} {fa fb : Bool} (ho : OpR X (binaryOp op) rr) (hr : RelR X.K rr f) (ha : PE X a (L X.K W fa da)) (hb : PE X b (L X.K W fb db)) :
    PE X (.BinOp a op b pos) (L X.K W true (dOp f da db)) := imE (pe_op ho ha hb) (l_op hr)
theorem q_un {a : Expr} {op : UnaryOp} {pos : Pos} {rr : V → Hp → VK → Prop} {f : F1} {da : DE} {fa : Bool} (ho : UnR X (unaryOp op) rr) (hr : RelU X.K rr f) (ha : PE X a (L X.K W fa da)) :
    PE X (.UnaryOp op a pos) (L X.K W true (dUn f da)) := imE (pe_un ho ha) (l_un hr)
theorem q_cmp {a b : Expr} {op : CmpOp} {pos : Pos} {rr : R2} {f : F2} {da db : DE} {fa fb : Bool} (ho : OpR X (compareOp op) rr) (hr : RelR X.K rr f) (ha : PE X a (L X.K W fa da)) (hb : PE X b (L X.K W fb db)) (hm : behindInMarks op b = false) :
    PE X (.Compare a [op] [b] pos) (L X.K W true (dOp f da db)) := imE (pe_cmpR ho ha hb hm) (l_op hr)
theorem q_ix {a b : Expr} {pos : Pos} {rr : R2} {f : F2} {da db : DE} {fa fb : Bool} (ho : IxR X rr) (hr : RelR X.K rr f) (ha : PE X a (L X.K W fa da)) (hb : PE X b (L X.K W fb db)) (hs : PlainIx b := by exact fun _ _ => rfl) :
    PE X (.Subscript a b pos) (L X.K W true (dOp f da db)) := imE (pe_ix ho ha hb hs) (l_op hr)
/-! ### unions of rules -/
theorem or_op {f : Value → Value → Sem Value} {r1 r2 : R2} (a : OpR X f r1) (b : OpR X f r2) : OpR X f (fun x y H Q => r1 x y H Q ∨ r2 x y H Q) := fun pins s t H x y v u Q I rx ry h =>
  h.elim (a pins s t H x y v u Q I rx ry) (b pins s t H x y v u Q I rx ry)
/-! ### what a value is, from its data -/
theorem rv_int {K : PySem.W.Frag} {B H : Hp} {v : V} {x : Val} {i : Int} (r : RepV K B H v x) (e : x.d = .int i) : v = .int i := by
  cases x with
  | dat d => cases (show d = .int i from e); cases r; rfl
  | tmp c => cases c <;> cases e
theorem rv_str {K : PySem.W.Frag} {B H : Hp} {v : V} {x : Val} {i : Str} (r : RepV K B H v x) (e : x.d = .str i) : v = .str i := by
  cases x with
  | dat d => cases (show d = .str i from e); cases r; rfl
  | tmp c => cases c <;> cases e
theorem rv_bl {K : PySem.W.Frag} {B H : Hp} {v : V} {x : Val} {i : Bool} (r : RepV K B H v x) (e : x.d = .bl i) : v = .bl i := by
  cases x with
  | dat d => cases (show d = .bl i from e); cases r; rfl
  | tmp c => cases c <;> cases e
theorem rv_non {K : PySem.W.Frag} {B H : Hp} {v : V} {x : Val} (r : RepV K B H v x) (e : x.d = .non) : v = .non := by
  cases x with
  | dat d => cases (show d = .non from e); cases r; rfl
  | tmp c => cases c <;> cases e
theorem rv_ty {K : PySem.W.Frag} {B H : Hp} {v : V} {x : Val} {n : String} (r : RepV K B H v x) (e : x.d = .ty n) : v = .ty n := by
  cases x with
  | dat d => cases (show d = .ty n from e); cases r; rfl
  | tmp c => cases c <;> cases e
theorem rv_tup {K : PySem.W.Frag} {B H : Hp} {v : V} {x : Val} {ds : List D} (k : Kp B H) (r : RepV K B H v x) (e : x.d = .tup ds) : ∃ a vs, v = .ref a ∧ SqT K B a vs ∧ SqT K H a vs ∧ RepL K B vs ds := by
  cases x with
  | dat d =>
    cases (show d = .tup ds from e)
    cases r with
    | tup h r => exact ⟨_, _, rfl, h, kp_t k h, r⟩
  | tmp c => cases c <;> cases e
theorem rv_lst {K : PySem.W.Frag} {B H : Hp} {v : V} {x : Val} {ds : List D} (k : Kp B H) (r : RepV K B H v x) (e : x.d = .lst ds) : ∃ a vs, v = .ref a ∧ H a = some (.lst vs) ∧ RepL K B vs ds := by
  cases x with
  | dat d =>
    cases (show d = .lst ds from e)
    cases r with
    | lst h r => exact ⟨_, _, rfl, (k _ _ h).1 DrawO.lst, r⟩
  | tmp c =>
    cases c with
    | dic _ => cases e
    | lst es =>
      cases (show D.lst es = D.lst ds from e)
      obtain ⟨p, rfl, n, vs, h, r⟩ := r
      exact ⟨_, _, rfl, h, r⟩
theorem rv_dic {K : PySem.W.Frag} {B H : Hp} {v : V} {x : Val} {ds : List (Key × D)} (k : Kp B H) (r : RepV K B H v x) (e : x.d = .dic ds) : ∃ a kvs, v = .ref a ∧ H a = some (.dK kvs) ∧ RepK K B kvs ds := by
  cases x with
  | dat d =>
    cases (show d = .dic ds from e)
    cases r with
    | dic h n r => exact ⟨_, _, rfl, (k _ _ h).1 n, r⟩
  | tmp c =>
    cases c with
    | lst _ => cases e
    | dic es =>
      cases (show D.dic es = D.dic ds from e)
      obtain ⟨p, rfl, n, vs, h, r⟩ := r
      exact ⟨_, _, rfl, h, r⟩
theorem rv_scr {K : PySem.W.Frag} {B H : Hp} {v : V} {x : Val} {ns : List Int} (k : Kp B H) (r : RepV K B H v x) (e : x.d = .scr ns) : ∃ a, v = .ref a ∧ SqL K H a (ns.map V.int) := by
  cases x with
  | dat d =>
    cases (show d = .scr ns from e)
    cases r with
    | scr h => exact ⟨_, rfl, kp_l k h⟩
  | tmp c => cases c <;> cases e
/-! ### ints -/
def fID (C : Int → Int → Prop) (g : Int → Int → D) (P : Val → Prop) : D → D → Prop
  | .int i, .int j => C i j ∧ P (.dat (g i j))
  | _, _ => False
def fI (C : Int → Int → Prop) (g : Int → Int → D) : F2 := fun x y P => fID C g P x.d y.d
def fI0D (g : Int → Int → D) (P : Val → Prop) : D → D → Prop
  | .int i, .int j => P (.dat (g i j))
  | _, _ => False
def fI0 (g : Int → Int → D) : F2 := fun x y P => fI0D g P x.d y.d
/-- V of flat data -/
def dV : D → V
  | .bl b => .bl b
  | .int i => .int i
  | .str x => .str x
  | .ty n => .ty n
  | _ => .non
def flatD : D → Bool
  | .non => true | .bl _ => true | .int _ => true | .str _ => true
  | _ => false
theorem rep_flat {K : PySem.W.Frag} {B : Hp} {d : D} (h : flatD d = true) : Rep K B (dV d) d := by
  cases d with
  | non => exact .non
  | bl b => exact .bl b
  | int i => exact .int i
  | str x => exact .str x
  | _ => cases h
theorem flat_rep {K : PySem.W.Frag} {B : Hp} {v : V} {d : D} (r : Rep K B v d) (h : flatD d = true) : v = dV d := by
  cases r with
  | non => rfl
  | bl b => rfl
  | int i => rfl
  | str x => rfl
  | _ => cases h
theorem rel_I {C : Int → Int → Prop} {g : Int → Int → D} {G : Int → Int → V} (hG : ∀ i j, G i j = dV (g i j)) (hf : ∀ i j, flatD (g i j) = true) : RelR X.K (rI C G) (fI C g) := by
  intro B H x y vx vy P Q k rx ry h a
  unfold fI fID at h
  split at h
  · rename_i i j e1 e2
    refine ⟨i, j, rv_int rx e1, rv_int ry e2, h.1, ?_⟩
    rw [hG]
    exact a.dat k (rep_flat (hf i j)) h.2
  · exact h.elim
theorem rel_I0 {g : Int → Int → D} {G : Int → Int → V} (hG : ∀ i j, G i j = dV (g i j)) (hf : ∀ i j, flatD (g i j) = true) : RelR X.K (rI0 G) (fI0 g) := by
  intro B H x y vx vy P Q k rx ry h a
  unfold fI0 fI0D at h
  split at h
  · rename_i i j e1 e2
    refine ⟨i, j, rv_int rx e1, rv_int ry e2, ?_⟩
    rw [hG]
    exact a.dat k (rep_flat (hf i j)) h
  · exact h.elim
def fSub : F2 := fI0 fun i j => .int (i - j)
def fMul : F2 := fI CMulW fun i j => .int (i * j)
def fMod : F2 := fI (fun _ j => 0 < j) fun i j => .int (i % j)
def fDiv : F2 := fI CDivW fun i j => .int (i / j)
def fPow : F2 := fI CPow fun i j => .int (i ^ j.toNat)
def fLt : F2 := fI0 fun i j => .bl (decide (i < j))
def fLe : F2 := fI0 fun i j => .bl (decide (i ≤ j))
def fGt : F2 := fI0 fun i j => .bl (decide (j < i))
def fGe : F2 := fI0 fun i j => .bl (decide (j ≤ i))
section
variable {a b : Expr} {pos : Pos} {da db : DE} {fa fb : Bool} (ha : PE X a (L X.K W fa da)) (hb : PE X b (L X.K W fb db))
include ha hb
theorem q_sub : PE X (.BinOp a .Sub b pos) (L X.K W true (dOp fSub da db)) := q_op op_sub (rel_I0 (fun _ _ => rfl) fun _ _ => rfl) ha hb
theorem q_mul : PE X (.BinOp a .Mult b pos) (L X.K W true (dOp fMul da db)) := q_op op_mulW (rel_I (fun _ _ => rfl) fun _ _ => rfl) ha hb
theorem q_mod : PE X (.BinOp a .Mod b pos) (L X.K W true (dOp fMod da db)) := q_op op_mod (rel_I (fun _ _ => rfl) fun _ _ => rfl) ha hb
theorem q_div : PE X (.BinOp a .FloorDiv b pos) (L X.K W true (dOp fDiv da db)) := q_op op_fdivW (rel_I (fun _ _ => rfl) fun _ _ => rfl) ha hb
theorem q_pow : PE X (.BinOp a .Pow b pos) (L X.K W true (dOp fPow da db)) := q_op op_pow (rel_I (fun _ _ => rfl) fun _ _ => rfl) ha hb
theorem q_lt : PE X (.Compare a [.Lt] [b] pos) (L X.K W true (dOp fLt da db)) := q_cmp op_lt (rel_I0 (fun _ _ => rfl) fun _ _ => rfl) ha hb (nomark _)
theorem q_le : PE X (.Compare a [.LtE] [b] pos) (L X.K W true (dOp fLe da db)) := q_cmp op_le (rel_I0 (fun _ _ => rfl) fun _ _ => rfl) ha hb (nomark _)
theorem q_gt : PE X (.Compare a [.Gt] [b] pos) (L X.K W true (dOp fGt da db)) := q_cmp op_gt (rel_I0 (fun _ _ => rfl) fun _ _ => rfl) ha hb (nomark _)
theorem q_ge : PE X (.Compare a [.GtE] [b] pos) (L X.K W true (dOp fGe da db)) := q_cmp op_ge (rel_I0 (fun _ _ => rfl) fun _ _ => rfl) ha hb (nomark _)
end
def fNegD (P : Val → Prop) : D → Prop
  | .int i => P (.dat (.int (-i)))
  | _ => False
def fNeg : F1 := fun x P => fNegD P x.d
theorem q_neg {a : Expr} {pos : Pos} {da : DE} {fa : Bool} (ha : PE X a (L X.K W fa da)) : PE X (.UnaryOp .USub a pos) (L X.K W true (dUn fNeg da)) := q_un un_neg (by
  intro B H x vx P Q k rx h a
  unfold fNeg fNegD at h
  split at h
  · rename_i i e1
    exact ⟨i, rv_int rx e1, a.dat k (.int _) h⟩
  · exact h.elim) ha
/-! ### + -/
def rAddU (K : PySem.W.Frag) : R2 := fun x y H Q => rI0 (fun i j => .int (i + j)) x y H Q ∨ ((∃ i j, x = .str i ∧ y = .str j ∧ i.length + j.length ≤ sizeLine ∧ Q (.str (i ++ j)) H) ∨ (rCat x y H Q ∨ rCatA K x y H Q))
theorem op_addU : OpR X (binaryOp .Add) (rAddU X.K) := or_op op_add (or_op op_add_str (or_op op_cat op_catA))
def fAddD (P : Val → Prop) : D → D → Prop
  | .int i, .int j => P (.dat (.int (i + j)))
  | .str i, .str j => i.length + j.length ≤ sizeLine ∧ P (.dat (.str (i ++ j)))
  | .lst i, .lst j => i.length + j.length ≤ sizeLine ∧ P (.tmp (.lst (i ++ j)))
  | .tup i, .tup j => i.length + j.length ≤ sizeLine ∧ P (.dat (.tup (i ++ j)))
  | _, _ => False
def fAdd : F2 := fun x y P => fAddD P x.d y.d
theorem rel_add : RelR X.K (rAddU X.K) fAdd := by
  intro B H x y vx vy P Q k rx ry h a
  unfold fAdd fAddD at h
  split at h
  · rename_i i j e1 e2
    exact .inl ⟨i, j, rv_int rx e1, rv_int ry e2, a.dat k (.int _) h⟩
  · rename_i i j e1 e2
    exact .inr (.inl ⟨i, j, rv_str rx e1, rv_str ry e2, h.1, a.dat k (.str _) h.2⟩)
  · rename_i i j e1 e2
    obtain ⟨p, vs, rfl, hp, r1⟩ := rv_lst k rx e1
    obtain ⟨q, ws, rfl, hq, r2⟩ := rv_lst k ry e2
    exact .inr (.inr (.inl ⟨p, q, vs, ws, rfl, rfl, hp, hq, by rw [r1.length, r2.length]; exact h.1, fun l n => a.newL k (r1.append r2) h.2 n⟩))
  · rename_i i j e1 e2
    obtain ⟨p, vs, rfl, hp0, hp, r1⟩ := rv_tup k rx e1
    obtain ⟨q, ws, rfl, hq0, hq, r2⟩ := rv_tup k ry e2
    refine .inr (.inr (.inr ⟨p, q, vs, ws, rfl, rfl, hp, hq, by rw [r1.length, r2.length]; exact h.1, fun e => ?_, fun _ e => ?_, fun _ _ l n => a.newT k (r1.append r2) h.2 n⟩))
    · subst e
      cases r1
      exact a.dat k (.tup hq0 r2) h.2
    · subst e
      cases r2
      have h2 := h.2
      rw [List.append_nil] at h2
      exact a.dat k (.tup hp0 r1) h2
  · exact h.elim
theorem q_add {a b : Expr} {pos : Pos} {da db : DE} {fa fb : Bool} (ha : PE X a (L X.K W fa da)) (hb : PE X b (L X.K W fb db)) : PE X (.BinOp a .Add b pos) (L X.K W true (dOp fAdd da db)) := q_op op_addU rel_add ha hb
/-! ### is, is not -/
def rIsU : R2 := fun x y H Q => (y = .non ∧ Q (.bl (decide (x = .non))) H) ∨ rIsB x y H Q
def rIsNU : R2 := fun x y H Q => (y = .non ∧ Q (.bl (!decide (x = .non))) H) ∨ rNotB x y H Q
def D.isN : D → Bool
  | .non => true
  | _ => false
theorem isN_of {K : PySem.W.Frag} {B H : Hp} {v : V} {x : Val} (r : RepV K B H v x) : decide (v = .non) = x.d.isN := by
  cases x with
  | dat d => cases r <;> rfl
  | tmp c =>
    obtain ⟨p, rfl, _⟩ := r
    cases c <;> rfl
/-- x is None; or two truths -/
def fIsD (P : Val → Prop) : D → D → Prop
  | x, .non => P (.dat (.bl x.isN))
  | .bl a, .bl b => P (.dat (.bl (decide (a = b))))
  | _, _ => False
def fIs : F2 := fun x y P => fIsD P x.d y.d
def fIsNotD (P : Val → Prop) : D → D → Prop
  | x, .non => P (.dat (.bl (!x.isN)))
  | .bl a, .bl b => P (.dat (.bl (!decide (a = b))))
  | _, _ => False
def fIsNot : F2 := fun x y P => fIsNotD P x.d y.d
theorem rel_is : RelR X.K rIsU fIs := by
  intro B H x y vx vy P Q k rx ry h a
  unfold fIs at h
  cases e : vy.d with
  | non =>
    rw [e] at h
    rw [fIsD.eq_1] at h
    refine .inl ⟨rv_non ry e, ?_⟩
    rw [isN_of rx]
    exact a.dat k (.bl _) h
  | bl b =>
    cases e1 : vx.d with
    | bl c =>
      rw [e, e1] at h
      exact .inr ⟨c, b, rv_bl rx e1, rv_bl ry e, a.dat k (.bl _) h⟩
    | _ => rw [e, e1] at h; exact h.elim
  | _ => rw [e] at h; unfold fIsD at h; cases e1 : vx.d <;> rw [e1] at h <;> exact h.elim
theorem rel_isNot : RelR X.K rIsNU fIsNot := by
  intro B H x y vx vy P Q k rx ry h a
  unfold fIsNot at h
  cases e : vy.d with
  | non =>
    rw [e] at h
    rw [fIsNotD.eq_1] at h
    refine .inl ⟨rv_non ry e, ?_⟩
    rw [isN_of rx]
    exact a.dat k (.bl _) h
  | bl b =>
    cases e1 : vx.d with
    | bl c =>
      rw [e, e1] at h
      exact .inr ⟨c, b, rv_bl rx e1, rv_bl ry e, a.dat k (.bl _) h⟩
    | _ => rw [e, e1] at h; exact h.elim
  | _ => rw [e] at h; unfold fIsNotD at h; cases e1 : vx.d <;> rw [e1] at h <;> exact h.elim
theorem q_is {a b : Expr} {pos : Pos} {da db : DE} {fa fb : Bool} (ha : PE X a (L X.K W fa da)) (hb : PE X b (L X.K W fb db)) : PE X (.Compare a [.Is] [b] pos) (L X.K W true (dOp fIs da db)) := q_cmp (or_op op_isN op_isBl) rel_is ha hb (nomark _)
theorem q_isNot {a b : Expr} {pos : Pos} {da db : DE} {fa fb : Bool} (ha : PE X a (L X.K W fa da)) (hb : PE X b (L X.K W fb db)) : PE X (.Compare a [.IsNot] [b] pos) (L X.K W true (dOp fIsNot da db)) := q_cmp (or_op op_notN op_notBl) rel_isNot ha hb (nomark _)
/-! ### ==, != of data -/
mutual
def py : D → PyData
  | .bl b => .bool b
  | .int i => .int i
  | .str x => .str x
  | .tup l => .tuple (pyL l)
  | .lst l => .list (pyL l)
  | _ => .none
def pyL : List D → List PyData
  | [] => []
  | d :: r => py d :: pyL r
end
mutual
def okD : D → Bool
  | .non => true
  | .bl _ => true
  | .int _ => true
  | .str _ => true
  | .tup l => okL l
  | .lst l => okL l
  | _ => false
def okL : List D → Bool
  | [] => true
  | d :: r => okD d && okL r
end
mutual
theorem dp_of {K : PySem.W.Frag} {H : Hp} : ∀ {v : V} {d : D}, Rep K H v d → okD d = true → Dp K H v (py d)
  | _, _, .non, _ => .non
  | _, _, .bl b, _ => .bl b
  | _, _, .int i, _ => .int i
  | _, _, .str x, _ => .str x
  | _, _, .tup h r, o => .tup h (dpL_of r o)
  | _, _, .lst h r, o => .lst (.inl (.inl h)) (dpL_of r o)
  | _, _, .ty _, o => nomatch o
  | _, _, .dic _ _ _, o => nomatch o
  | _, _, .draw _ _, o => nomatch o
  | _, _, .scr _, o => nomatch o
  | _, _, .obj _, o => nomatch o
  | _, _, .exc _ _ _, o => nomatch o
  | _, _, .clo _, o => nomatch o
  | _, _, .drawl _, o => nomatch o
theorem dpL_of {K : PySem.W.Frag} {H : Hp} : ∀ {vs : List V} {ds : List D}, RepL K H vs ds → okL ds = true → DpAll K H vs (pyL ds)
  | _, _, .nil, _ => .nil
  | _, _, .cons h r, o => .cons (dp_of h (Bool.and_eq_true_iff.mp o).1) (dpL_of r (Bool.and_eq_true_iff.mp o).2)
end
theorem dp_val {K : PySem.W.Frag} {B H : Hp} {v : V} {x : Val} (k : Kp B H) (r : RepV K B H v x) (o : okD x.d = true) : Dp K H v (py x.d) := by
  cases x with
  | dat d => exact dp_of (Rep.mono k r) o
  | tmp c =>
    cases c with
    | dic _ => cases o
    | lst ds =>
      obtain ⟨p, rfl, n, vs, h, r⟩ := r
      exact .lst (.inl (.inl h)) (dpL_of (r.mono k) o)
/-- what == asks of data: no dicts and the like, not too deep -/
def eqOk (d : D) : Bool := okD d && SeqAt.shaped (py d)
/-- == of data -/
def eqd (a b : D) : Bool := PyData.eqv (py a) (py b)
def fEq : F2 := fun x y P => (eqOk x.d = true ∧ eqOk y.d = true) ∧ P (.dat (.bl (eqd x.d y.d)))
def fNe : F2 := fun x y P => (eqOk x.d = true ∧ eqOk y.d = true) ∧ P (.dat (.bl (!eqd x.d y.d)))
theorem rel_eq : RelR X.K (rEqD X.K) fEq := by
  intro B H x y vx vy P Q k rx ry h a
  obtain ⟨⟨o1, o2⟩, p⟩ := h
  have o1 := Bool.and_eq_true_iff.mp o1
  have o2 := Bool.and_eq_true_iff.mp o2
  exact ⟨py vx.d, py vy.d, dp_val k rx o1.1, dp_val k ry o2.1, o1.2, o2.2, a.dat k (.bl _) p⟩
theorem rel_ne : RelR X.K (rNeD X.K) fNe := by
  intro B H x y vx vy P Q k rx ry h a
  obtain ⟨⟨o1, o2⟩, p⟩ := h
  have o1 := Bool.and_eq_true_iff.mp o1
  have o2 := Bool.and_eq_true_iff.mp o2
  exact ⟨py vx.d, py vy.d, dp_val k rx o1.1, dp_val k ry o2.1, o1.2, o2.2, a.dat k (.bl _) p⟩
theorem q_eq {a b : Expr} {pos : Pos} {da db : DE} {fa fb : Bool} (hu : X.A.units + 64 < cLine) (ha : PE X a (L X.K W fa da)) (hb : PE X b (L X.K W fb db)) : PE X (.Compare a [.Eq] [b] pos) (L X.K W true (dOp fEq da db)) := q_cmp (op_eqD hu) rel_eq ha hb (nomark _)
theorem q_ne {a b : Expr} {pos : Pos} {da db : DE} {fa fb : Bool} (hu : X.A.units + 64 < cLine) (ha : PE X a (L X.K W fa da)) (hb : PE X b (L X.K W fb db)) : PE X (.Compare a [.NotEq] [b] pos) (L X.K W true (dOp fNe da db)) := q_cmp (op_neD hu) rel_ne ha hb (nomark _)
/-! ### in, not in -/
theorem flat_v {d : D} (h : flatD d = true) : flatV (dV d) = true := by cases d <;> first | rfl | cases h
theorem flat_l {K : PySem.W.Frag} {B : Hp} : ∀ {vs : List V} {ds : List D}, RepL K B vs ds → ds.all flatD = true → vs = ds.map dV
  | _, _, .nil, _ => rfl
  | _, _, .cons h r, o => by
    rw [List.all_cons] at o
    have o := Bool.and_eq_true_iff.mp o
    rw [List.map_cons, ← flat_rep h o.1, ← flat_l r o.2]
theorem flat_all {ds : List D} (o : ds.all flatD = true) : (ds.map dV).all flatV = true := by
  rw [List.all_map]
  refine List.all_eq_true.mpr fun d hd => ?_
  exact flat_v (List.all_eq_true.mp o d hd)
/-- x in ds, flat things -/
def inD (x : D) (ds : List D) : Bool := inV (dV x) (ds.map dV)
def rInU (K : PySem.W.Frag) (neg : Bool) : R2 := fun x y H Q => rIn K neg x y H Q ∨ ∃ (c : Nat) (z : Str), x = .str ⟨#[c]⟩ ∧ y = .str z ∧ Q (.bl (if neg then !decide (c ∈ z.cps.toList) else decide (c ∈ z.cps.toList))) H
def fInD (neg : Bool) (P : Val → Prop) (x : D) : D → Prop
  | .lst l => (flatD x = true ∧ l.all flatD = true) ∧ P (.dat (.bl (if neg then !inD x l else inD x l)))
  | .tup l => (flatD x = true ∧ l.all flatD = true) ∧ P (.dat (.bl (if neg then !inD x l else inD x l)))
  | .str z => ∃ c, x = .str ⟨#[c]⟩ ∧ P (.dat (.bl (if neg then !decide (c ∈ z.cps.toList) else decide (c ∈ z.cps.toList))))
  | _ => False
def fIn (neg : Bool) : F2 := fun x y P => fInD neg P x.d y.d
theorem op_inU : OpR X (compareOp .In) (rInU X.K false) := or_op op_in_seq fun pins s t H x y v u Q I rx ry ⟨c, z, e1, e2, q⟩ => op_in_sign pins s t H x y v u Q I rx ry ⟨c, z, e1, e2, q⟩
theorem op_ninU : OpR X (compareOp .NotIn) (rInU X.K true) := or_op op_notIn_seq fun pins s t H x y v u Q I rx ry ⟨c, z, e1, e2, q⟩ => op_notIn_sign pins s t H x y v u Q I rx ry ⟨c, z, e1, e2, q⟩
theorem flat_val {K : PySem.W.Frag} {B H : Hp} {v : V} {x : Val} (r : RepV K B H v x) (h : flatD x.d = true) : v = dV x.d := by
  cases x with
  | dat d => exact flat_rep r h
  | tmp c => cases c <;> cases h
theorem rel_in {neg : Bool} : RelR X.K (rInU X.K neg) (fIn neg) := by
  intro B H x y vx vy P Q k rx ry h a
  unfold fIn fInD at h
  split at h
  · rename_i l e
    obtain ⟨⟨o1, o2⟩, h⟩ := h
    obtain ⟨p, vs, rfl, hp, r⟩ := rv_lst k ry e
    have ev := flat_l r o2
    have ex := flat_val rx o1
    subst ev ex
    exact .inl ⟨p, _, rfl, .inl (.inl (.inl hp)), flat_v o1, flat_all o2, a.dat k (.bl _) h⟩
  · rename_i l e
    obtain ⟨⟨o1, o2⟩, h⟩ := h
    obtain ⟨p, vs, rfl, _, hp, r⟩ := rv_tup k ry e
    have ev := flat_l r o2
    have ex := flat_val rx o1
    subst ev ex
    exact .inl ⟨p, _, rfl, .inr hp, flat_v o1, flat_all o2, a.dat k (.bl _) h⟩
  · rename_i z e
    obtain ⟨c, e1, h⟩ := h
    exact .inr ⟨c, z, rv_str rx e1, rv_str ry e, a.dat k (.bl _) h⟩
  · exact h.elim
theorem q_in {a b : Expr} {pos : Pos} {da db : DE} {fa fb : Bool} (ha : PE X a (L X.K W fa da)) (hb : PE X b (L X.K W fb db)) (hm : behindInMarks .In b = false := by rfl) : PE X (.Compare a [.In] [b] pos) (L X.K W true (dOp (fIn false) da db)) := q_cmp op_inU rel_in ha hb hm
theorem q_notIn {a b : Expr} {pos : Pos} {da db : DE} {fa fb : Bool} (ha : PE X a (L X.K W fa da)) (hb : PE X b (L X.K W fb db)) (hm : behindInMarks .NotIn b = false := by rfl) : PE X (.Compare a [.NotIn] [b] pos) (L X.K W true (dOp (fIn true) da db)) := q_cmp op_ninU rel_in ha hb hm
/-! ### chains of two comparisons -/
/-- one of two, by a truth -/
def ifB (c : Bool) (A B : Prop) : Prop := if c = true then A else B
theorem ifB_of {c : Bool} {A B : Prop} (h1 : c = true → A) (h2 : c = false → B) : ifB c A B := by
  cases c with
  | true => exact h1 rfl
  | false => exact h2 rfl
theorem ifB_dec {p : Prop} [Decidable p] {A B : Prop} (h1 : p → A) (h2 : ¬ p → B) : ifB (decide p) A B :=
  ifB_of (fun h => h1 (of_decide_eq_true h)) (fun h => h2 (of_decide_eq_false h))
theorem ifB_T {c : Bool} {A B : Prop} (h : c = true) (a : A) : ifB c A B := ifB_of (fun _ => a) fun z => by rw [h] at z; cases z
theorem ifB_F {c : Bool} {A B : Prop} (h : c = false) (b : B) : ifB c A B := ifB_of (fun z => by rw [h] at z; cases z) fun _ => b
/-- a truth -/
def asB (P : Bool → Prop) : D → Prop
  | .bl b => P b
  | _ => False
theorem asB_elim {P : Bool → Prop} {d : D} (h : asB P d) : ∃ b, d = .bl b ∧ P b := by
  cases d <;> first | exact ⟨_, rfl, h⟩ | exact h.elim
def dChain (f g : F2) (da db dc : DE) : DE := fun xc r P => da xc r fun x => db xc r fun y => f x y fun z => asB (fun k => ifB k (dc xc r fun w => g y w P) (P (.dat (.bl false)))) z.d
theorem l_chain {r1 r2 : R2} {f g : F2} {da db dc : DE} {fa fb fc : Bool} (h1 : RelR X.K r1 f) (h2 : RelR X.K r2 g) (s : L2.St) (H : Hp) (Q : VK) (h : L X.K W true (dChain f g da db dc) s H Q) :
    tChain r1 r2 (L X.K W fa da) (L X.K W fb db) (L X.K W fc dc) s H Q := by
  obtain ⟨B, r, xc, P, k, en, h, hx, hq⟩ := h
  refine ⟨B, r, xc, _, k, en, h, hx, fun x vx B1h B1 s1 rx _ q1 => ?_⟩
  refine ⟨B1, r, xc, _, s1.sub, en.step s1, q1, fun cls d e H' B' st => hx cls d e H' B' (s1.trans st), fun y vy H2 B2 s2 ry _ q2 => ?_⟩
  refine h1 B2 H2 x y vx vy _ _ s2.sub (rx.step s2) ry q2 fun z vz H3 B3 s3 rz _ q3 => ?_
  obtain ⟨kk, e, q3⟩ := asB_elim q3
  · refine ⟨kk, rv_bl rz e, ?_⟩
    have s13 := (s1.trans s2).trans s3
    cases kk with
    | true =>
      unfold ifB at q3; rw [if_pos rfl] at q3 ⊢
      refine ⟨B3, r, xc, _, s3.sub, en.step s13, q3, fun cls d e H' B' st => hx cls d e H' B' (s13.trans st), fun w vw H4 B4 s4 rw4 _ q4 => ?_⟩
      exact h2 B4 H4 y w vy vw _ _ s4.sub ((ry.step s3).step s4) rw4 q4 fun v z' H5 B5 s5 rv fr p => hq v z' H5 B5 ((s13.trans s4).trans s5) rv (fun _ => (fr.back s4).back s13) p
    | false =>
      unfold ifB at q3; rw [if_neg Bool.false_ne_true] at q3 ⊢
      exact hq _ (.dat (.bl false)) H3 B3 s13 (Rep.bl false) (fun _ => Fr.dat) q3
theorem q_chain {a b c : Expr} {op op' : CmpOp} {pos : Pos} {r1 r2 : R2} {f g : F2} {da db dc : DE} {fa fb fc : Bool} (o1 : OpR X (compareOp op) r1) (o2 : OpR X (compareOp op') r2) (h1 : RelR X.K r1 f) (h2 : RelR X.K r2 g)
    (ha : PE X a (L X.K W fa da)) (hb : PE X b (L X.K W fb db)) (hc : PE X c (L X.K W fc dc)) (hm : lastMarks [op, op'] [b, c] = false := by with_unfolding_all rfl) :
    PE X (.Compare a [op, op'] [b, c] pos) (L X.K W true (dChain f g da db dc)) := imE (pe_chain o1 o2 ha hb hc hm) (l_chain h1 h2)
theorem q_le_le {a b c : Expr} {pos : Pos} {da db dc : DE} {fa fb fc : Bool} (ha : PE X a (L X.K W fa da)) (hb : PE X b (L X.K W fb db)) (hc : PE X c (L X.K W fc dc)) (hm : lastMarks [.LtE, .LtE] [b, c] = false := by with_unfolding_all rfl) :
    PE X (.Compare a [.LtE, .LtE] [b, c] pos) (L X.K W true (dChain fLe fLe da db dc)) := q_chain op_le op_le (rel_I0 (fun _ _ => rfl) fun _ _ => rfl) (rel_I0 (fun _ _ => rfl) fun _ _ => rfl) ha hb hc hm
theorem q_le_lt {a b c : Expr} {pos : Pos} {da db dc : DE} {fa fb fc : Bool} (ha : PE X a (L X.K W fa da)) (hb : PE X b (L X.K W fb db)) (hc : PE X c (L X.K W fc dc)) (hm : lastMarks [.LtE, .Lt] [b, c] = false := by with_unfolding_all rfl) :
    PE X (.Compare a [.LtE, .Lt] [b, c] pos) (L X.K W true (dChain fLe fLt da db dc)) := q_chain op_le op_lt (rel_I0 (fun _ _ => rfl) fun _ _ => rfl) (rel_I0 (fun _ _ => rfl) fun _ _ => rfl) ha hb hc hm
/-! ### tests -/
/-- a value's truth -/
def fTruD (P : Bool → Prop) : D → Prop
  | .non => P false
  | .bl b => P b
  | .int i => P (i != 0)
  | .str y => y.length ≤ sizeLine ∧ P ((y.length : Int) != 0)
  | .tup l => P (!l.isEmpty)
  | .lst l => P (!l.isEmpty)
  | .dic l => P (!l.isEmpty)
  | .scr l => P (!l.isEmpty)
  | _ => False
def fTru (x : Val) (P : Bool → Prop) : Prop := fTruD P x.d
/-- an expression's value that is a truth -/
def dB (de : DE) : DT := fun xc r P => de xc r fun x => asB P x.d
def dTru (de : DE) : DT := fun xc r P => de xc r fun x => fTru x P
theorem RepL.isEmpty {K : PySem.W.Frag} {B : Hp} {vs : List V} {ds : List D} (r : RepL K B vs ds) : vs.isEmpty = ds.isEmpty := by cases r <;> rfl
theorem RepK.isEmpty {K : PySem.W.Frag} {B : Hp} {vs : List (Key × V)} {ds : List (Key × D)} (r : RepK K B vs ds) : vs.isEmpty = ds.isEmpty := by cases r <;> rfl
theorem l_B {de : DE} {fa : Bool} (s : L2.St) (H : Hp) (Q : Bool → Hp → Prop) (h : LT X.K W (dB de) s H Q) : tB (L X.K W fa de) s H Q := by
  obtain ⟨B, r, xc, P, k, en, h, hx, hq⟩ := h
  refine ⟨B, r, xc, _, k, en, h, hx, fun x vx H1 B1 s1 rx _ q => ?_⟩
  obtain ⟨b, e, q⟩ := asB_elim q
  exact ⟨b, rv_bl rx e, hq b H1 B1 s1 q⟩
theorem q_test {e : Expr} {de : DE} {fa : Bool} (h : PE X e (L X.K W fa de)) (he : ∀ whole, isTrue e X.env whole = (do let v ← whole; standAt e.pos; holding [v] (truthy v)) := by intro _; rfl) : PT X e (LT X.K W (dB de)) := imT (pt_val h he) l_B
theorem qt_cmp {a b : Expr} {op : CmpOp} {pos : Pos} {rr : R2} {f : F2} {da db : DE} {fa fb : Bool} (ho : OpR X (compareOp op) rr) (hr : RelR X.K rr f) (ha : PE X a (L X.K W fa da)) (hb : PE X b (L X.K W fb db)) (hm : behindInMarks op b = false) :
    PT X (.Compare a [op] [b] pos) (LT X.K W (dB (dOp f da db))) := imT (pt_cmpR ho ha hb hm) fun s H Q h => l_op hr s H _ (l_B (fa := true) s H Q h)
theorem qt_chain {a b c : Expr} {op op' : CmpOp} {pos : Pos} {r1 r2 : R2} {f g : F2} {da db dc : DE} {fa fb fc : Bool} (o1 : OpR X (compareOp op) r1) (o2 : OpR X (compareOp op') r2) (h1 : RelR X.K r1 f) (h2 : RelR X.K r2 g)
    (ha : PE X a (L X.K W fa da)) (hb : PE X b (L X.K W fb db)) (hc : PE X c (L X.K W fc dc)) (hm : lastMarks [op, op'] [b, c] = false := by with_unfolding_all rfl) :
    PT X (.Compare a [op, op'] [b, c] pos) (LT X.K W (dB (dChain f g da db dc))) := imT (pt_chain o1 o2 ha hb hc hm) fun s H Q h => l_chain h1 h2 s H _ (l_B (fa := true) s H Q h)
section
variable {a b : Expr} {pos : Pos} {da db : DE} {fa fb : Bool} (ha : PE X a (L X.K W fa da)) (hb : PE X b (L X.K W fb db))
include ha hb
theorem qt_lt : PT X (.Compare a [.Lt] [b] pos) (LT X.K W (dB (dOp fLt da db))) := qt_cmp op_lt (rel_I0 (fun _ _ => rfl) fun _ _ => rfl) ha hb (nomark _)
theorem qt_le : PT X (.Compare a [.LtE] [b] pos) (LT X.K W (dB (dOp fLe da db))) := qt_cmp op_le (rel_I0 (fun _ _ => rfl) fun _ _ => rfl) ha hb (nomark _)
theorem qt_gt : PT X (.Compare a [.Gt] [b] pos) (LT X.K W (dB (dOp fGt da db))) := qt_cmp op_gt (rel_I0 (fun _ _ => rfl) fun _ _ => rfl) ha hb (nomark _)
theorem qt_ge : PT X (.Compare a [.GtE] [b] pos) (LT X.K W (dB (dOp fGe da db))) := qt_cmp op_ge (rel_I0 (fun _ _ => rfl) fun _ _ => rfl) ha hb (nomark _)
theorem qt_is : PT X (.Compare a [.Is] [b] pos) (LT X.K W (dB (dOp fIs da db))) := qt_cmp (or_op op_isN op_isBl) rel_is ha hb (nomark _)
theorem qt_isNot : PT X (.Compare a [.IsNot] [b] pos) (LT X.K W (dB (dOp fIsNot da db))) := qt_cmp (or_op op_notN op_notBl) rel_isNot ha hb (nomark _)
theorem qt_eq (hu : X.A.units + 64 < cLine) : PT X (.Compare a [.Eq] [b] pos) (LT X.K W (dB (dOp fEq da db))) := qt_cmp (op_eqD hu) rel_eq ha hb (nomark _)
theorem qt_ne (hu : X.A.units + 64 < cLine) : PT X (.Compare a [.NotEq] [b] pos) (LT X.K W (dB (dOp fNe da db))) := qt_cmp (op_neD hu) rel_ne ha hb (nomark _)
theorem qt_in (hm : behindInMarks .In b = false := by rfl) : PT X (.Compare a [.In] [b] pos) (LT X.K W (dB (dOp (fIn false) da db))) := qt_cmp op_inU rel_in ha hb hm
theorem qt_notIn (hm : behindInMarks .NotIn b = false := by rfl) : PT X (.Compare a [.NotIn] [b] pos) (LT X.K W (dB (dOp (fIn true) da db))) := qt_cmp op_ninU rel_in ha hb hm
theorem qt_le_le {c : Expr} {dc : DE} {fc : Bool} (hc : PE X c (L X.K W fc dc)) (hm : lastMarks [.LtE, .LtE] [b, c] = false := by with_unfolding_all rfl) : PT X (.Compare a [.LtE, .LtE] [b, c] pos) (LT X.K W (dB (dChain fLe fLe da db dc))) :=
  qt_chain op_le op_le (rel_I0 (fun _ _ => rfl) fun _ _ => rfl) (rel_I0 (fun _ _ => rfl) fun _ _ => rfl) ha hb hc hm
theorem qt_le_lt {c : Expr} {dc : DE} {fc : Bool} (hc : PE X c (L X.K W fc dc)) (hm : lastMarks [.LtE, .Lt] [b, c] = false := by with_unfolding_all rfl) : PT X (.Compare a [.LtE, .Lt] [b, c] pos) (LT X.K W (dB (dChain fLe fLt da db dc))) :=
  qt_chain op_le op_lt (rel_I0 (fun _ _ => rfl) fun _ _ => rfl) (rel_I0 (fun _ _ => rfl) fun _ _ => rfl) ha hb hc hm
end
theorem q_truth {e : Expr} {de : DE} {fa : Bool} (h : PE X e (L X.K W fa de)) (he : ∀ whole, isTrue e X.env whole = (do let v ← whole; standAt e.pos; holding [v] (truthy v)) := by intro _; rfl) : PT X e (LT X.K W (dTru de)) := by
  refine imT (pt_truth h he) fun s H Q ⟨B, r, xc, P, k, en, h, hx, hq⟩ => ⟨B, r, xc, _, k, en, h, hx, fun x vx H1 B1 s1 rx _ q => ?_⟩
  unfold fTru fTruD at q
  split at q
  · rename_i e
    exact ⟨false, by rw [rv_non rx e]; rfl, hq _ H1 B1 s1 q⟩
  · rename_i b e
    exact ⟨b, by rw [rv_bl rx e]; rfl, hq _ H1 B1 s1 q⟩
  · rename_i i e
    exact ⟨i != 0, by rw [rv_int rx e]; rfl, hq _ H1 B1 s1 q⟩
  · rename_i y e
    exact ⟨(y.length : Int) != 0, by rw [rv_str rx e]; exact ⟨q.1, rfl⟩, hq _ H1 B1 s1 q.2⟩
  · rename_i l e
    obtain ⟨p, vs, rfl, _, hp, rr⟩ := rv_tup s1.sub rx e
    exact ⟨!l.isEmpty, .inr (.inl ⟨vs, hp, by rw [rr.isEmpty]⟩), hq _ H1 B1 s1 q⟩
  · rename_i l e
    obtain ⟨p, vs, rfl, hp, rr⟩ := rv_lst s1.sub rx e
    exact ⟨!l.isEmpty, .inl ⟨vs, .inl (.inl hp), by rw [rr.isEmpty]⟩, hq _ H1 B1 s1 q⟩
  · rename_i l e
    obtain ⟨p, vs, rfl, hp, rr⟩ := rv_dic s1.sub rx e
    exact ⟨!l.isEmpty, .inr (.inr ⟨vs, hp, by rw [rr.isEmpty]⟩), hq _ H1 B1 s1 q⟩
  · rename_i l e
    obtain ⟨p, rfl, hp⟩ := rv_scr s1.sub rx e
    exact ⟨!l.isEmpty, .inl ⟨_, hp, by cases l <;> rfl⟩, hq _ H1 B1 s1 q⟩
  · exact q.elim
def dAnd (ta tb : DT) : DT := fun xc r P => ta xc r fun c => ifB c (tb xc r P) (P false)
def dOr (ta tb : DT) : DT := fun xc r P => ta xc r fun c => ifB c (P true) (tb xc r P)
def dNot (ta : DT) : DT := fun xc r P => ta xc r fun c => P (!c)
theorem l_and {ta tb : DT} (s : L2.St) (H : Hp) (Q : Bool → Hp → Prop) (h : LT X.K W (dAnd ta tb) s H Q) : tAnd (LT X.K W ta) (LT X.K W tb) s H Q := by
  obtain ⟨B, r, xc, P, k, en, h, hx, hq⟩ := h
  refine ⟨B, r, xc, _, k, en, h, hx, fun c H1 B1 s1 q => ?_⟩
  cases c with
  | true =>
    unfold ifB at q; rw [if_pos rfl] at q ⊢
    exact ⟨B1, r, xc, P, s1.sub, en.step s1, q, fun cls d e H' B' st => hx cls d e H' B' (s1.trans st), fun b H2 B2 s2 p => hq b H2 B2 (s1.trans s2) p⟩
  | false =>
    unfold ifB at q; rw [if_neg Bool.false_ne_true] at q ⊢
    exact hq _ H1 B1 s1 q
theorem l_or {ta tb : DT} (s : L2.St) (H : Hp) (Q : Bool → Hp → Prop) (h : LT X.K W (dOr ta tb) s H Q) : tOr (LT X.K W ta) (LT X.K W tb) s H Q := by
  obtain ⟨B, r, xc, P, k, en, h, hx, hq⟩ := h
  refine ⟨B, r, xc, _, k, en, h, hx, fun c H1 B1 s1 q => ?_⟩
  cases c with
  | true =>
    unfold ifB at q; rw [if_pos rfl] at q ⊢
    exact hq _ H1 B1 s1 q
  | false =>
    unfold ifB at q; rw [if_neg Bool.false_ne_true] at q ⊢
    exact ⟨B1, r, xc, P, s1.sub, en.step s1, q, fun cls d e H' B' st => hx cls d e H' B' (s1.trans st), fun b H2 B2 s2 p => hq b H2 B2 (s1.trans s2) p⟩
theorem q_not {e : Expr} {pos : Pos} {ta : DT} (h : PT X e (LT X.K W ta)) : PT X (.UnaryOp .Not e pos) (LT X.K W (dNot ta)) := by
  refine imT (pt_not h) fun s H Q ⟨B, r, xc, P, k, en, h, hx, hq⟩ => ⟨B, r, xc, _, k, en, h, hx, fun c H1 B1 s1 q => hq _ H1 B1 s1 q⟩
theorem qw_and {a b : Expr} {rest : List Expr} {pos : Pos} {ta tb : DT} (ha : PT X a (LT X.K W ta)) (hb : PW X (.BoolOp .And (b :: rest) pos) (LT X.K W tb)) : PW X (.BoolOp .And (a :: b :: rest) pos) (LT X.K W (dAnd ta tb)) := imW (pw_and ha hb) l_and
theorem qw_or {a b : Expr} {rest : List Expr} {pos : Pos} {ta tb : DT} (ha : PT X a (LT X.K W ta)) (hb : PW X (.BoolOp .Or (b :: rest) pos) (LT X.K W tb)) : PW X (.BoolOp .Or (a :: b :: rest) pos) (LT X.K W (dOr ta tb)) := imW (pw_or ha hb) l_or
/-! ### and, or, not as values; a if c else b -/
def dAndV (da db : DE) : DE := fun xc r P => da xc r fun x => asB (fun c => ifB c (db xc r P) (P (.dat (.bl false)))) x.d
def dOrV (da db : DE) : DE := fun xc r P => da xc r fun x => asB (fun c => ifB c (P (.dat (.bl true))) (db xc r P)) x.d
theorem q_andV {a b : Expr} {rest : List Expr} {pos : Pos} {da db : DE} {fa : Bool} (ha : PE X a (L X.K W fa da)) (hb : PE X (.BoolOp .And (b :: rest) pos) (L X.K W true db)) : PE X (.BoolOp .And (a :: b :: rest) pos) (L X.K W true (dAndV da db)) := by
  refine imE (pe_and ha hb) fun s H Q ⟨B, r, xc, P, k, en, h, hx, hq⟩ => ⟨B, r, xc, _, k, en, h, hx, fun x vx H1 B1 s1 rx _ q => ?_⟩
  obtain ⟨c, e, q⟩ := asB_elim q
  · refine ⟨c, rv_bl rx e, ?_⟩
    cases c with
    | true =>
      unfold ifB at q; rw [if_pos rfl] at q ⊢
      exact ⟨B1, r, xc, P, s1.sub, en.step s1, q, fun cls d e H' B' st => hx cls d e H' B' (s1.trans st), fun v x H2 B2 s2 rv fr p => hq v x H2 B2 (s1.trans s2) rv (fun z => (fr z).back s1) p⟩
    | false =>
      unfold ifB at q; rw [if_neg Bool.false_ne_true] at q ⊢
      exact hq _ (.dat (.bl false)) H1 B1 s1 (Rep.bl false) (fun _ => Fr.dat) q
theorem q_orV {a b : Expr} {rest : List Expr} {pos : Pos} {da db : DE} {fa : Bool} (ha : PE X a (L X.K W fa da)) (hb : PE X (.BoolOp .Or (b :: rest) pos) (L X.K W true db)) : PE X (.BoolOp .Or (a :: b :: rest) pos) (L X.K W true (dOrV da db)) := by
  refine imE (pe_or ha hb) fun s H Q ⟨B, r, xc, P, k, en, h, hx, hq⟩ => ⟨B, r, xc, _, k, en, h, hx, fun x vx H1 B1 s1 rx _ q => ?_⟩
  obtain ⟨c, e, q⟩ := asB_elim q
  · refine ⟨c, rv_bl rx e, ?_⟩
    cases c with
    | true =>
      unfold ifB at q; rw [if_pos rfl] at q ⊢
      exact hq _ (.dat (.bl true)) H1 B1 s1 (Rep.bl true) (fun _ => Fr.dat) q
    | false =>
      unfold ifB at q; rw [if_neg Bool.false_ne_true] at q ⊢
      exact ⟨B1, r, xc, P, s1.sub, en.step s1, q, fun cls d e H' B' st => hx cls d e H' B' (s1.trans st), fun v x H2 B2 s2 rv fr p => hq v x H2 B2 (s1.trans s2) rv (fun z => (fr z).back s1) p⟩
theorem q_one {a : Expr} {op : BoolOp} {pos : Pos} {t : TE} (ha : PE X a t) : PE X (.BoolOp op [a] pos) t := pe_one ha
def dNotV (da : DE) : DE := fun xc r P => da xc r fun x => asB (fun c => P (.dat (.bl (!c)))) x.d
theorem q_notV {a : Expr} {pos : Pos} {da : DE} {fa : Bool} (ha : PE X a (L X.K W fa da)) : PE X (.UnaryOp .Not a pos) (L X.K W true (dNotV da)) := by
  refine imE (pe_not ha) fun s H Q ⟨B, r, xc, P, k, en, h, hx, hq⟩ => ⟨B, r, xc, _, k, en, h, hx, fun x vx H1 B1 s1 rx _ q => ?_⟩
  obtain ⟨c, e, q⟩ := asB_elim q
  exact ⟨c, rv_bl rx e, hq _ (.dat (.bl (!c))) H1 B1 s1 (Rep.bl _) (fun _ => Fr.dat) q⟩
def dIf (t : DT) (da db : DE) : DE := fun xc r P => t xc r fun c => ifB c (da xc r P) (db xc r P)
theorem q_ifExp {c a b : Expr} {pos : Pos} {t : DT} {da db : DE} {f : Bool} (hc : PT X c (LT X.K W t)) (ha : PE X a (L X.K W f da)) (hb : PE X b (L X.K W f db)) : PE X (.IfExp c a b pos) (L X.K W f (dIf t da db)) := by
  refine imE (pe_ifExp hc ha hb) fun s H Q ⟨B, r, xc, P, k, en, h, hx, hq⟩ => ⟨B, r, xc, _, k, en, h, hx, fun c H1 B1 s1 q => ?_⟩
  cases c with
  | true =>
    unfold ifB at q; rw [if_pos rfl] at q ⊢
    exact ⟨B1, r, xc, P, s1.sub, en.step s1, q, fun cls d e H' B' st => hx cls d e H' B' (s1.trans st), fun v x H2 B2 s2 rv fr p => hq v x H2 B2 (s1.trans s2) rv (fun z => (fr z).back s1) p⟩
  | false =>
    unfold ifB at q; rw [if_neg Bool.false_ne_true] at q ⊢
    exact ⟨B1, r, xc, P, s1.sub, en.step s1, q, fun cls d e H' B' st => hx cls d e H' B' (s1.trans st), fun v x H2 B2 s2 rv fr p => hq v x H2 B2 (s1.trans s2) rv (fun z => (fr z).back s1) p⟩
/-! ### a new container is shared -/
/-- a container of one's own becomes shared data -/
theorem share {K : PySem.W.Frag} {B H B' H' : Hp} {v : V} {x : Val} (s : Step B H B' H') (r : RepV K B' H' v x) (f : Fr H v x) (nd : ∀ l, x = .tmp (.dic l) → ∀ p kvs, v = .ref p → H' p = some (.dK kvs) → ¬ DrawO (.dK kvs)) : ∃ B'', Step B H B'' H' ∧ Kp B' B'' ∧ Rep K B'' v x.d := by
  cases x with
  | dat d => exact ⟨B', s, .refl _, r⟩
  | tmp c =>
    obtain ⟨p, rfl, n, w⟩ := r
    have hp := f p c rfl rfl
    obtain ⟨o, ho⟩ := w.has
    have kp : Kp B' (upd B' p o) := .new n
    have sub : Kp (upd B' p o) H' := fun a u e => by
      by_cases z : a = p
      · subst z
        rw [upd_same] at e
        cases e
        exact ⟨fun _ => ho, fun d => ⟨_, ho, .refl d⟩⟩
      · rw [upd_ne z] at e
        exact s.sub a u e
    refine ⟨upd B' p o, ⟨s.kp.trans kp, sub, fun a u e nb => ?_⟩, kp, ?_⟩
    · have ne : a ≠ p := fun z => by rw [z, hp] at e; cases e
      rw [upd_ne ne]
      exact s.out a u e nb
    · cases c with
      | lst ds =>
        obtain ⟨vs, h, r⟩ := w
        rw [ho] at h
        cases h
        exact .lst upd_same (r.mono kp)
      | dic ds =>
        obtain ⟨vs, h, r⟩ := w
        rw [ho] at h
        cases h
        exact .dic upd_same (nd ds rfl p vs rfl ho) (r.mono kp)
/-- as shared data: not for a dict that looks like a draw's -/
def Ct.safe : Ct → Prop
  | .lst _ => True
  | .dic l => ∀ a b m, l ≠ (.inr "rest", a) :: (.inr "mixed", b) :: m
def Val.safe : Val → Prop
  | .dat _ => True
  | .tmp c => c.safe
theorem safe_nd {K : PySem.W.Frag} {B H : Hp} {v : V} {x : Val} (r : RepV K B H v x) (s : x.safe) : ∀ l, x = .tmp (.dic l) → ∀ p kvs, v = .ref p → H p = some (.dK kvs) → ¬ DrawO (.dK kvs) := by
  intro l e p kvs e2 h d
  subst e
  obtain ⟨q, e3, _, kv, h2, rr⟩ := r
  rw [e2] at e3
  cases e3
  rw [h] at h2
  cases h2
  rcases d with ⟨a, b, m, e4, _⟩ | ⟨_, e4⟩
  case inr => cases e4
  cases e4
  cases rr with
  | cons h1 rr =>
    cases rr with
    | cons h2 rr => exact s _ _ _ rfl
/-- e as shared data -/
def dSh (de : DE) : DE := fun xc r P => de xc r fun x => x.safe ∧ P (.dat x.d)
theorem q_share {e : Expr} {de : DE} (h : PE X e (L X.K W true de)) : PE X e (L X.K W true (dSh de)) := by
  refine imE h fun s H Q ⟨B, r, xc, P, k, en, h, hx, hq⟩ => ⟨B, r, xc, _, k, en, h, hx, fun v x H1 B1 s1 rx fr q => ?_⟩
  obtain ⟨B2, s2, _, rp⟩ := share s1 rx (fr rfl) (safe_nd rx q.1)
  exact hq v (.dat x.d) H1 B2 s2 rp (fun _ => Fr.dat) q.2
/-! ### arguments, displays -/
def dNil : DA := fun _ _ P => P []
/-- shared data -/
def asD (P : D → Prop) : Val → Prop
  | .dat d => P d
  | .tmp _ => False
def dCons (de : DE) (da : DA) : DA := fun xc r P => de xc r fun x => asD (fun d => da xc r fun ds => P (d :: ds)) x
theorem qa_nil : PA X [] (LA X.K W dNil) := imA pa_nil fun s H Q ⟨B, r, xc, P, k, en, h, hx, hq⟩ => hq [] [] H B (.refl k) .nil h
theorem qa_cons {e : Expr} {es : List Expr} {de : DE} {da : DA} (h : PE X e (L X.K W true de)) (hr : PA X es (LA X.K W da)) (hs : starEach (e :: es) X.env = (false, eval e X.env) :: starEach es X.env := by rfl) : PA X (e :: es) (LA X.K W (dCons de da)) := by
  refine imA (pa_cons h hr hs) fun s H Q ⟨B, r, xc, P, k, en, h, hx, hq⟩ => ⟨B, r, xc, _, k, en, h, hx, fun v x H1 B1 s1 rx fr q => ?_⟩
  cases x with
  | tmp c => exact q.elim
  | dat d =>
    exact ⟨B1, r, xc, _, s1.sub, en.step s1, q, fun cls d e H' B' st => hx cls d e H' B' (s1.trans st), fun vs ds H2 B2 s2 rl p => hq (v :: vs) (d :: ds) H2 B2 (s1.trans s2) (.cons (Rep.mono s2.kp rx) rl) p⟩
def dTup (da : DA) : DE := fun xc r P => da xc r fun ds => ds.length ≤ sizeLine ∧ P (.dat (.tup ds))
def dLst (da : DA) : DE := fun xc r P => da xc r fun ds => ds.length ≤ sizeLine ∧ P (.tmp (.lst ds))
theorem q_tup {es : List Expr} {x1 : Nat} {pos : Pos} {da : DA} (h : PA X es (LA X.K W da)) : PE X (.Tuple es x1 pos) (L X.K W true (dTup da)) := by
  refine imE (pe_tup h) fun s H Q ⟨B, r, xc, P, k, en, h, hx, hq⟩ => ⟨B, r, xc, _, k, en, h, hx, fun vs ds H1 B1 s1 rl q => ⟨by rw [rl.length]; exact q.1, fun p n => ?_⟩⟩
  exact hq (.ref p) (.dat (.tup ds)) _ (upd B1 p (.tup vs)) (s1.trans (.new s1.sub n)) (.tup (.inl (.inl upd_same)) (rl.mono (Kp.new (s1.sub.none n)))) (fun _ => Fr.dat) q.2
theorem q_lst {es : List Expr} {pos : Pos} {da : DA} (h : PA X es (LA X.K W da)) : PE X (.List es pos) (L X.K W true (dLst da)) := by
  refine imE (pe_lst h) fun s H Q ⟨B, r, xc, P, k, en, h, hx, hq⟩ => ⟨B, r, xc, _, k, en, h, hx, fun vs ds H1 B1 s1 rl q => ⟨by rw [rl.length]; exact q.1, fun p n => ?_⟩⟩
  exact hq (.ref p) (.tmp (.lst ds)) _ B1 (s1.trans (.tmp s1.sub n)) ⟨p, rfl, s1.sub.none n, vs, upd_same, rl⟩ (fun _ q c e _ => by cases e; exact s1.free n) q.2
end
end Dl
/-! Dl3: statements read by data; loops, comprehensions, calls of the text's own defs. -/
namespace Dl
open PySem PySem.Spec PyProof.Rows L2
/-! ### targets -/
abbrev DG := D → DEnv → (DEnv → Prop) → Prop
/-- what is stored to: names at places of vs alone -/
def LG (K : PySem.W.Frag) (vs : List Nat) (dg : DG) : TG := fun v s H Q => ∃ B r d P, Kp B H ∧ EnvRep K B H s r ∧ Rep K B v d ∧ dg d r P ∧
  ∀ s' r', EnvRep K B H s' r' → wipe s' vs = wipe s vs → (∀ a, Owns s' r' a → Owns s r a) → P r' → Q s' H
theorem wipe_set {v : Option V} : ∀ {vs : List Nat} {s : L2.St} {i : Nat}, i ∈ vs → wipe (s.set i v) vs = wipe s vs
  | [], _, _, h => nomatch h
  | w :: vs, s, i, h => by
    show (wipe (s.set i v) vs).set w none = (wipe s vs).set w none
    by_cases z : i ∈ vs
    · rw [wipe_set z]
    · have e : i = w := by
        rcases List.mem_cons.mp h with e | e
        · exact e
        · exact absurd e z
      subst e
      have q : ∀ (l : List Nat) (s : L2.St), i ∉ l → wipe (s.set i v) l = (wipe s l).set i v := by
        intro l
        induction l with
        | nil => intro s _; rfl
        | cons a l ih =>
          intro s hn
          show (wipe (s.set i v) l).set a none = ((wipe s l).set a none).set i v
          rw [ih s fun q => hn (List.mem_cons_of_mem _ q)]
          exact List.set_comm _ _ fun q => hn (by rw [q]; exact List.mem_cons_self)
      rw [q vs s z, List.set_set]
/-- the env without some names -/
def wp (r : DEnv) : List Nat → DEnv
  | [] => r
  | v :: vs => st (wp r vs) v none
section
variable {K : PySem.W.Frag} {B H : Hp}
theorem lk_st_none {e : DEnv} {i j : Nat} {x : Val} (h : lk (st e i none) j = some x) : lk e j = some x ∧ i ≠ j := by
  by_cases z : i = j
  · subst z
    have hl := lk_lt h
    rw [st_length] at hl
    rw [lk_st_same hl] at h
    cases h
  · rw [lk_st_ne z] at h
    exact ⟨h, z⟩
theorem EnvRep.drop {s : L2.St} {r : DEnv} (e : EnvRep K B H s r) (v : Nat) : EnvRep K B H (s.set v none) (st r v none) := by
  refine ⟨by rw [List.length_set, st_length, e.len], fun i x h => ?_, fun i j c c' a h1 h2 h3 h4 => ?_⟩
  · obtain ⟨h, z⟩ := lk_st_none h
    rw [List.getElem?_set_ne z]
    exact e.at_ i x h
  · obtain ⟨h1, z1⟩ := lk_st_none h1
    obtain ⟨h2, z2⟩ := lk_st_none h2
    rw [List.getElem?_set_ne z1] at h3
    rw [List.getElem?_set_ne z2] at h4
    exact e.dis i j c c' a h1 h2 h3 h4
theorem EnvRep.wipe {s : L2.St} {r : DEnv} (e : EnvRep K B H s r) : ∀ vs : List Nat, EnvRep K B H (wipe s vs) (wp r vs)
  | [] => e
  | v :: vs => (EnvRep.wipe e vs).drop v
end
theorem Owns.set {s : L2.St} {r : DEnv} {i : Nat} {v : V} {x : Val} {a : Addr} (h : Owns (s.set i (some v)) (st r i (some x)) a) : Owns s r a ∨ (v = .ref a ∧ ∃ c, x = .tmp c) := by
  obtain ⟨j, c, h1, h2⟩ := h
  by_cases z : i = j
  · subst z
    have hl := lk_lt h1
    rw [st_length] at hl
    rw [lk_st_same hl] at h1
    by_cases hs : i < s.length
    · rw [List.getElem?_set_self hs] at h2
      cases h2
      cases h1
      exact .inr ⟨rfl, c, rfl⟩
    · rw [List.getElem?_eq_none (by rw [List.length_set]; omega)] at h2
      cases h2
  · rw [lk_st_ne z] at h1
    rw [List.getElem?_set_ne z] at h2
    exact .inl ⟨j, c, h1, h2⟩
def gN (i : Nat) : DG := fun d r P => P (st r i (some (.dat d)))
def gT2 (i j : Nat) : DG := fun d r P => match d with
  | .tup [a, b] => P (st (st r i (some (.dat a))) j (some (.dat b)))
  | _ => False
def gT3 (i j k : Nat) : DG := fun d r P => match d with
  | .tup [a, b, c] => P (st (st (st r i (some (.dat a))) j (some (.dat b))) k (some (.dat c)))
  | _ => False
section
variable {X : Cx}
theorem imG {tg : Expr} {t u : TG} (h : PG X tg t) (f : ∀ v s H Q, u v s H Q → t v s H Q) : PG X tg u := ⟨fun pins s r H x v Q I rx q => h.run pins s r H x v Q I rx (f _ _ _ _ q)⟩
theorem setD {K : PySem.W.Frag} {B H : Hp} {s : L2.St} {r : DEnv} {i : Nat} {v : V} {d : D} (e : EnvRep K B H s r) (h : Rep K B v d) : EnvRep K B H (s.set i (some v)) (st r i (some (.dat d))) ∧ ∀ a, Owns (s.set i (some v)) (st r i (some (.dat d))) a → Owns s r a :=
  ⟨e.set (x := .dat d) h fun _ _ _ z => (nomatch z), fun a o => (Owns.set o).elim id fun ⟨_, c, z⟩ => nomatch z⟩
theorem qg_name {i : Nat} {x : Str} {pos : Pos} {vs : List Nat} (hm : i ∈ vs) (hN : X.N.Nodup) (hi : X.N[i]? = some x) (hx : Loc X.env.scope x) (hf : X.fn x = true ∨ X.env.scope.names.lookup x = some .local := by first | exact .inl rfl | exact .inr rfl | assumption) :
    PG X (.Name x pos) (LG X.K vs (gN i)) := imG (pg_name hN hi hx hf) fun v s H Q ⟨B, r, d, P, k, en, rd, p, hq⟩ => by
  obtain ⟨e, o⟩ := setD (i := i) en rd
  exact hq _ _ e (wipe_set hm) o p
theorem qg_t2 {a b : Expr} {j0 : Nat} {pos : Pos} {vs : List Nat} {i j : Nat} (hc : X.calm = true) (mi : i ∈ vs) (mj : j ∈ vs) (ha : PG X a (gName i)) (hb : PG X b (gName j))
    (h1 : (assignEach [a, b] X.env).map (·.2) = assign a X.env :: (assignEach [b] X.env).map (·.2) := by rfl) (h2 : (assignEach [b] X.env).map (·.2) = assign b X.env :: (assignEach [] X.env).map (·.2) := by rfl)
    (hn : (assignEach [a, b] X.env).length = 2 := by rfl) (hst : (assignEach [a, b] X.env).findIdx? (·.1) = none := by rfl) : PG X (.Tuple [a, b] j0 pos) (LG X.K vs (gT2 i j)) := by
  refine imG (pg_tup hc (pgs_cons ha (pgs_cons hb pgs_nil h2) h1) hn hst) fun v s H Q ⟨B, r, d, P, k, en, rd, p, hq⟩ => ?_
  unfold gT2 at p
  split at p
  · rename_i x y
    cases rd with
    | tup h rl =>
      cases rl with
      | cons rx rl =>
        cases rl with
        | cons ry rl =>
          cases rl
          obtain ⟨e1, o1⟩ := setD (i := i) en rx
          obtain ⟨e2, o2⟩ := setD (i := j) e1 ry
          refine ⟨_, _, rfl, kp_t k h, rfl, _, _, rfl, _, _, rfl, rfl, hq _ _ e2 ?_ (fun a o => o1 a (o2 a o)) p⟩
          rw [wipe_set mj, wipe_set mi]
  · exact p.elim
theorem qg_t3 {a b c : Expr} {j0 : Nat} {pos : Pos} {vs : List Nat} {i j l : Nat} (hc : X.calm = true) (mi : i ∈ vs) (mj : j ∈ vs) (ml : l ∈ vs) (ha : PG X a (gName i)) (hb : PG X b (gName j)) (hcc : PG X c (gName l))
    (h1 : (assignEach [a, b, c] X.env).map (·.2) = assign a X.env :: (assignEach [b, c] X.env).map (·.2) := by rfl) (h2 : (assignEach [b, c] X.env).map (·.2) = assign b X.env :: (assignEach [c] X.env).map (·.2) := by rfl)
    (h3 : (assignEach [c] X.env).map (·.2) = assign c X.env :: (assignEach [] X.env).map (·.2) := by rfl)
    (hn : (assignEach [a, b, c] X.env).length = 3 := by rfl) (hst : (assignEach [a, b, c] X.env).findIdx? (·.1) = none := by rfl) : PG X (.Tuple [a, b, c] j0 pos) (LG X.K vs (gT3 i j l)) := by
  refine imG (pg_tup hc (pgs_cons ha (pgs_cons hb (pgs_cons hcc pgs_nil h3) h2) h1) hn hst) fun v s H Q ⟨B, r, d, P, k, en, rd, p, hq⟩ => ?_
  unfold gT3 at p
  split at p
  · rename_i x y z
    cases rd with
    | tup h rl =>
      cases rl with
      | cons rx rl =>
        cases rl with
        | cons ry rl =>
          cases rl with
          | cons rz rl =>
            cases rl
            obtain ⟨e1, o1⟩ := setD (i := i) en rx
            obtain ⟨e2, o2⟩ := setD (i := j) e1 ry
            obtain ⟨e3, o3⟩ := setD (i := l) e2 rz
            refine ⟨_, _, rfl, kp_t k h, rfl, _, _, rfl, _, _, rfl, _, _, rfl, rfl, hq _ _ e3 ?_ (fun a o => o1 a (o2 a (o3 a o))) p⟩
            rw [wipe_set ml, wipe_set mj, wipe_set mi]
  · exact p.elim
end
section
variable {X : Cx} {W : WX}
/-! ### what is walked -/
def iAny (K : PySem.W.Frag) (tl : TE) : TI := fun s H R => tl s H fun x H1 => (∃ a, x = .ref a ∧ (∃ xs, SqL K H1 a xs) ∧ R (Itl K a) H1) ∨ (∃ a, x = .ref a ∧ (∃ xs, SqT K H1 a xs) ∧ R (Itt K a) H1) ∨ ∃ y, x = .str y ∧ R (Its y) H1
theorem pi_any {tg l : Expr} {tl : TE} (hl : PE X l tl) : PI X tg l (iAny X.K tl) := by
  refine ⟨fun pins s σ H R I h => ?_⟩
  refine thn (hl.run pins s σ H _ I h) fun v s1 ⟨x, H1, I1, r1, q1⟩ => ?_
  rcases q1 with ⟨a, e, ⟨xs, hq⟩, q⟩ | ⟨a, e, ⟨xs, hq⟩, q⟩ | ⟨y, e, q⟩
  · subst e
    cases r1
    obtain ⟨its, rv, p, hz⟩ := I1.list hq
    refine wpAny_pyIter_list p.isList ?_
    refine ⟨s1.heap.objs.size, [s1.heap.objs.size], _, _, H1, rfl, I1.kept (t' := s1.toks) fun b o e => Heap.get?_push_of_some _ e, turn_list a _, ⟨_, Heap.get?_push_size _ rfl, rfl, rfl⟩, fun b hb => ?_, q⟩
    have e : b = s1.heap.objs.size := by simpa using hb
    subst e
    exact I1.fpOk (Nat.le_refl _) (I1.hok.fresh (Nat.le_refl _))
  · subst e
    cases r1
    obtain ⟨its, rv, p, hz⟩ := I1.tuple hq
    refine wpAny_pyIter_tuple (show s1.heap.IsTuple a its.toArray from p) ?_
    refine ⟨s1.heap.objs.size, [s1.heap.objs.size], _, _, H1, rfl, I1.kept (t' := s1.toks) fun b o e => Heap.get?_push_of_some _ e, turn_tuple a _, ⟨_, Heap.get?_push_size _ rfl, rfl, rfl⟩, fun b hb => ?_, q⟩
    have e : b = s1.heap.objs.size := by simpa using hb
    subst e
    exact I1.fpOk (Nat.le_refl _) (I1.hok.fresh (Nat.le_refl _))
  · subst e
    obtain ⟨t, rfl⟩ := r1
    cases ha : y.cps.all (· < 128)
    · exact wpAny_pyIter_wide ha (pi_one (tk := s1.toks) I1 _ (turn_str _ y t "str_iterator" (.inr rfl)) ⟨_, Heap.get?_push_size _ rfl, rfl, rfl⟩ q)
    · exact wpAny_pyIter_ascii ha (pi_one (tk := s1.toks) I1 _ (turn_str _ y t "str_ascii_iterator" (.inl rfl)) ⟨_, Heap.get?_push_size _ rfl, rfl, rfl⟩ q)
/-- the things that one walks over -/
def fItD (P : List D → Prop) : D → Prop
  | .lst l => P l
  | .tup l => P l
  | .scr l => P (l.map D.int)
  | .str y => P (y.cps.toList.map fun c => D.str ⟨#[c]⟩)
  | _ => False
def fIt (x : Val) (P : List D → Prop) : Prop := fItD P x.d
def dIt (de : DE) : DI := fun xc r P => de xc r fun x => fIt x P
theorem itok_list {K : PySem.W.Frag} {a : Addr} {vs : List V} {ds : List D} {B H : Hp} {src : Addr → Prop} (stay : ∀ B2 H2, Kp B B2 → Kp B2 H2 → (∀ p o, src p → H p = some o → H2 p = some o ∧ B2 p = none) → SqL K H2 a vs) (r : RepL K B vs ds) : ItOk K (Itl K a) ds B H src := by
  intro B2 H2 i k1 k2 hs
  have q := stay B2 H2 k1 k2 hs
  refine ⟨fun d hd => ?_, fun hn => ⟨vs, q, by rw [r.length]; exact Nat.le_of_eq hn⟩⟩
  obtain ⟨v, hv, rv⟩ := r.get hd
  refine ⟨⟨vs, v, q, hv⟩, fun x H3 y => ?_⟩
  obtain ⟨e, y⟩ := y
  subst e
  have z := y vs q
  rw [hv] at z
  cases z
  exact ⟨B2, .refl k2, rv.mono k1⟩
theorem itok_tup {K : PySem.W.Frag} {a : Addr} {vs : List V} {ds : List D} {B H : Hp} {src : Addr → Prop} (h : SqT K B a vs) (r : RepL K B vs ds) : ItOk K (Itt K a) ds B H src := by
  intro B2 H2 i k1 k2 hs
  have q := kp_t k2 (kp_t k1 h)
  refine ⟨fun d hd => ?_, fun hn => ⟨vs, q, by rw [r.length]; exact Nat.le_of_eq hn⟩⟩
  obtain ⟨v, hv, rv⟩ := r.get hd
  refine ⟨⟨vs, v, q, hv⟩, fun x H3 y => ?_⟩
  obtain ⟨e, y⟩ := y
  subst e
  have z := y vs q
  rw [hv] at z
  cases z
  exact ⟨B2, .refl k2, rv.mono k1⟩
theorem itok_str {K : PySem.W.Frag} {y : Str} {B H : Hp} {src : Addr → Prop} : ItOk K (Its y) (y.cps.toList.map fun c => D.str ⟨#[c]⟩) B H src := by
  intro B2 H2 i k1 k2 hs
  refine ⟨fun d hd => ?_, fun hn => ?_⟩
  · rw [List.getElem?_map, Array.getElem?_toList] at hd
    cases e : y.cps[i]? with
    | none => rw [e] at hd; cases hd
    | some c =>
      rw [e] at hd
      cases hd
      refine ⟨(Array.getElem?_eq_some_iff.mp e).1, fun x H3 z => ?_⟩
      obtain ⟨e2, c', e3, rfl⟩ := z
      subst e2
      rw [e] at e3
      cases e3
      exact ⟨B2, .refl k2, .str _⟩
  · rw [List.length_map, Array.length_toList] at hn
    exact Nat.le_of_eq hn
theorem qi_any {tg e : Expr} {de : DE} (h : PE X e (L X.K W true de)) : PI X tg e (LI X.K W (dIt de)) := by
  refine imI (pi_any h) fun s H R ⟨B, r, xc, P, k, en, h, hx, hq⟩ => ⟨B, r, xc, _, k, en, h, hx, fun x vx H1 B1 s1 rx fr q => ?_⟩
  unfold fIt fItD at q
  split at q
  · rename_i l e
    cases vx with
    | dat d =>
      cases (show d = .lst l from e)
      cases rx with
      | lst hb rl =>
        exact .inl ⟨_, rfl, ⟨_, .inl (.inl ((s1.sub _ _ hb).1 DrawO.lst))⟩, hq _ l H1 B1 (fun _ => False) s1 (fun _ z => z.elim)
          (itok_list (fun B2 H2 k1 k2 _ => kp_l k2 (kp_l k1 (.inl (.inl hb)))) rl) q⟩
    | tmp c =>
      cases c with
      | dic _ => cases e
      | lst es =>
        cases (show D.lst es = D.lst l from e)
        obtain ⟨p, rfl, n, vs, hp, rl⟩ := rx
        exact .inl ⟨_, rfl, ⟨_, .inl (.inl hp)⟩, hq _ l H1 B1 (fun a => a = p) s1 (fun a z => by subst z; exact ⟨fr rfl _ _ rfl rfl, n, _, hp, fun _ z => nomatch z⟩)
          (itok_list (fun B2 H2 k1 k2 st => .inl (.inl (st p _ rfl hp).1)) rl) q⟩
  · rename_i l e
    obtain ⟨p, vs, rfl, hb, hp, rl⟩ := rv_tup s1.sub rx e
    exact .inr (.inl ⟨_, rfl, ⟨_, hp⟩, hq _ l H1 B1 (fun _ => False) s1 (fun _ z => z.elim) (itok_tup hb rl) q⟩)
  · rename_i l e
    cases vx with
    | tmp c => cases c <;> cases e
    | dat d =>
      cases (show d = .scr l from e)
      cases rx with
      | scr hb => exact .inl ⟨_, rfl, ⟨_, kp_l s1.sub hb⟩, hq _ _ H1 B1 (fun _ => False) s1 (fun _ z => z.elim) (itok_list (fun B2 H2 k1 k2 _ => kp_l k2 (kp_l k1 hb)) (RepL.ints l)) q⟩
  · rename_i y e
    have ex := rv_str rx e
    exact .inr (.inr ⟨y, ex, hq _ _ H1 B1 (fun _ => False) s1 (fun _ z => z.elim) itok_str q⟩)
  · exact q.elim
/-- range(n), range(a, b) -/
def rngD (lo : Int) (n : Nat) : List D := (List.range n).map fun i => D.int (lo + (i : Nat))
theorem itok_rng {K : PySem.W.Frag} {lo : Int} {n : Nat} {B H : Hp} {src : Addr → Prop} : ItOk K (Itr lo n) (rngD lo n) B H src := by
  intro B2 H2 i k1 k2 hs
  refine ⟨fun d hd => ?_, fun hn => ?_⟩
  · unfold rngD at hd
    rw [List.getElem?_map] at hd
    have hl : i < n := by
      rcases Nat.lt_or_ge i n with z | z
      · exact z
      · rw [List.getElem?_eq_none (by rw [List.length_range]; exact z)] at hd
        cases hd
    rw [List.getElem?_range hl] at hd
    cases hd
    refine ⟨hl, fun x H3 z => ?_⟩
    obtain ⟨e2, rfl⟩ := z
    subst e2
    exact ⟨B2, .refl k2, .int _⟩
  · unfold rngD at hn
    rw [List.length_map, List.length_range] at hn
    exact Nat.le_of_eq hn
def dRng1 (da : DA) : DI := fun xc r P => da xc r fun ds => match ds with
  | [.int n] => (-(2 ^ 62) ≤ n ∧ n < 2 ^ 62) ∧ P (rngD 0 n.toNat)
  | _ => False
def dRng2 (da : DA) : DI := fun xc r P => da xc r fun ds => match ds with
  | [.int a, .int b] => (-(2 ^ 62) ≤ a ∧ a < 2 ^ 62 ∧ -(2 ^ 62) ≤ b ∧ b < 2 ^ 62) ∧ P (rngD a (b - a).toNat)
  | _ => False
theorem qi_rng1 {tg a : Expr} {p pos : Pos} {da : DA} (hg : Gl X "range") (hm : X.mg "range" = none) (ha : PA X [a] (LA X.K W da)) (hs : starEach [a] X.env = [(false, eval a X.env)] := by rfl) : PI X tg (.Call (.Name "range" p) [a] [] pos) (LI X.K W (dRng1 da)) := by
  refine imI (pi_range1 hg hm ha hs) fun s H R ⟨B, r, xc, P, k, en, h, hx, hq⟩ => ⟨B, r, xc, _, k, en, h, hx, fun vs ds H1 B1 s1 rl q => ?_⟩
  split at q
  · rename_i n
    cases rl with
    | cons h1 rl =>
      cases rl
      cases h1
      exact ⟨n, rfl, q.1.1, q.1.2, hq _ _ H1 B1 (fun _ => False) s1 (fun _ z => z.elim) itok_rng q.2⟩
  · exact q.elim
theorem qi_rng2 {tg a b : Expr} {p pos : Pos} {da : DA} (hg : Gl X "range") (hm : X.mg "range" = none) (ha : PA X [a, b] (LA X.K W da)) (hs : starEach [a, b] X.env = [(false, eval a X.env), (false, eval b X.env)] := by rfl) (hs2 : starEach [b] X.env = [(false, eval b X.env)] := by rfl) :
    PI X tg (.Call (.Name "range" p) [a, b] [] pos) (LI X.K W (dRng2 da)) := by
  refine imI (pi_range2 hg hm ha hs hs2) fun s H R ⟨B, r, xc, P, k, en, h, hx, hq⟩ => ⟨B, r, xc, _, k, en, h, hx, fun vs ds H1 B1 s1 rl q => ?_⟩
  split at q
  · rename_i n m
    cases rl with
    | cons h1 rl =>
      cases rl with
      | cons h2 rl =>
        cases rl
        cases h1
        cases h2
        exact ⟨n, m, rfl, q.1, hq _ _ H1 B1 (fun _ => False) s1 (fun _ z => z.elim) itok_rng q.2⟩
  · exact q.elim
/-! ### list comprehensions -/
def W0 : WX := fun _ _ _ _ => False
def X0 : DX := fun _ _ => False
def dYes : DT := fun _ _ P => P true
/-- a comprehension over these things: I by the turn and what is made so far -/
def Lc (tg : DG) (cond : DT) (elt : DE) (own : List Nat) (r : DEnv) (P : Val → Prop) (items : List D) : Prop := ∃ I : Nat → List D → Prop, I 0 [] ∧
  (∀ i x acc, items[i]? = some x → I i acc → tg x (wp r own) fun r2 => cond X0 r2 fun b => ifB b (elt X0 r2 fun y => asD (fun d => acc.length < sizeLine ∧ I (i + 1) (acc ++ [d])) y) (I (i + 1) acc)) ∧ ∀ acc, I items.length acc → P (.tmp (.lst acc))
def dLc (di : DI) (tg : DG) (cond : DT) (elt : DE) (own : List Nat) : DE := fun xc r P => di xc r (Lc tg cond elt own r P)
theorem l_lc {di : DI} {tg : DG} {cond : DT} {elt : DE} {own : List Nat} (s : L2.St) (H : Hp) (Q : VK) (h : L X.K W true (dLc di tg cond elt own) s H Q) :
    tLc (LI X.K W di) (LG X.K own tg) (LT X.K W0 cond) (L X.K W0 true elt) own s H Q := by
  obtain ⟨B, r, xc, P, k, en, h, hx, hq⟩ := h
  refine ⟨B, r, xc, _, k, en, h, hx, fun J items H1 B1 src s1 hsrc it q => fun Da nD => ?_⟩
  obtain ⟨I, i0, turn, fin⟩ := q
  refine ⟨fun i m H => ∃ B2 vs acc, m = items.length - i ∧ i ≤ items.length ∧ Step B1 H1 B2 H ∧ H Da = some (.lst vs) ∧ B2 Da = none ∧ RepL X.K B2 vs acc ∧ I i acc,
    ⟨items.length, B1, [], [], by omega, Nat.zero_le _, .tmp s1.sub nD, upd_same, s1.sub.none nD, .nil, i0⟩, ?_⟩
  rintro i m H2 ⟨B2, vs, acc, rfl, hi, s2, hD, bD, rl, inv⟩
  have z := it B2 H2 i s2.kp s2.sub fun p o hp ho => s2.out p o ho (hsrc p hp).2.1
  by_cases hlt : i < items.length
  · obtain ⟨d, hd⟩ : ∃ d, items[i]? = some d := ⟨items[i], by simp [hlt]⟩
    obtain ⟨go, yl⟩ := z.1 d hd
    refine .inr ⟨go, fun H' => ∃ B2 vs acc, Step B1 H1 B2 H' ∧ H' Da = some (.lst vs) ∧ B2 Da = none ∧ RepL X.K B2 vs acc ∧ I (i + 1) acc, fun H' ⟨B3, vs3, acc3, s3, hD3, bD3, rl3, inv3⟩ => ⟨items.length - (i + 1), by omega, B3, vs3, acc3, rfl, hlt, s3, hD3, bD3, rl3, inv3⟩, fun x H3 y => ?_⟩
    obtain ⟨B3, s3, rx⟩ := yl x H3 y
    have hD3 := s3.out Da _ hD bD
    have s13 := s1.trans (s2.trans s3)
    have en3 := (en.step s13).wipe own
    refine ⟨B3, wp r own, d, _, s3.sub, en3, rx, turn i d acc hd inv, fun s' r' en' hw _ q => ?_⟩
    rw [show wipe (wipe s own) own = wipe s own from ?_] at hw
    · refine ⟨hw, B3, r', X0, _, s3.sub, en', q, fun _ _ _ _ _ _ _ z => z.elim, fun b H4 B4 s4 q => ?_⟩
      have hD4 := s4.out Da _ hD3.1 hD3.2
      cases b with
      | false =>
        unfold ifB at q; rw [if_neg Bool.false_ne_true] at q
        refine iteF ?_
        exact ⟨B4, vs, acc, s2.trans (s3.trans s4), hD4.1, hD4.2, rl.mono (s3.kp.trans s4.kp), q⟩
      | true =>
        unfold ifB at q; rw [if_pos rfl] at q
        refine iteT ?_
        refine ⟨B4, r', X0, _, s4.sub, en'.step s4, q, fun _ _ _ _ _ _ _ z => z.elim, fun v vx H5 B5 s5 rv fr q => ?_⟩
        have hD5 := s5.out Da _ hD4.1 hD4.2
        cases vx with
        | tmp c => exact q.elim
        | dat e =>
          obtain ⟨hl, q⟩ := q
          have rl5 : RepL X.K B5 vs acc := rl.mono (s3.kp.trans (s4.kp.trans s5.kp))
          have s25 := s2.trans (s3.trans (s4.trans s5))
          refine ⟨vs, hD5.1, by rw [rl5.length]; exact hl, B5, vs ++ [v], acc ++ [e], ⟨s25.kp, s25.sub.upd hD5.2, fun a o h n => ?_⟩, upd_same, hD5.2, rl5.append (.cons rv .nil), q⟩
          have ne : a ≠ Da := fun z => by rw [z, nD] at h; cases h
          rw [upd_ne ne]
          exact s25.out a o h n
    · have idem : ∀ l : List Nat, ∀ s : L2.St, wipe (wipe s l) l = wipe s l := by
        have comm : ∀ (l : List Nat) (v : Nat) (s : L2.St), wipe (s.set v none) l = (wipe s l).set v none := by
          intro l
          induction l with
          | nil => intro v s; rfl
          | cons a l ih =>
            intro v s
            show (wipe (s.set v none) l).set a none = ((wipe s l).set a none).set v none
            rw [ih]
            by_cases z : v = a
            · subst z; rfl
            · exact List.set_comm _ _ z
        intro l
        induction l with
        | nil => intro s; rfl
        | cons a l ih =>
          intro s
          show (wipe ((wipe s l).set a none) l).set a none = (wipe s l).set a none
          rw [comm, ih, List.set_set]
      exact idem own s
  · have e : i = items.length := by omega
    subst e
    exact .inl ⟨z.2 rfl, hq _ (.tmp (.lst acc)) H2 B2 (s1.trans s2) ⟨Da, rfl, bD, vs, hD, rl⟩ (fun _ p c e _ => by cases e; exact s1.free nD) (fin acc inv)⟩
theorem q_lc {elt tg iter : Expr} {ifs : List Expr} {scope : Scope} {own : List (Str × Nat)} {pos : Pos} {di : DI} {dg : DG} {cond : DT} {de : DE} (hc : X.calm = true) (hN : X.N.Nodup) (hi : PI X tg iter (LI X.K W di)) (ok : BlkOk X.N X.env.scope scope own)
    (hg : ∀ (s : Shared) (H : Hp) (C : Addr) (cl : List (Str × Addr)) (fp : List Addr), PG (X.blk s H scope (compEnvC scope cl C X.env) fp) tg (LG X.K (own.map (·.2)) dg)) (ht : ∀ (s : Shared) (H : Hp) (C : Addr) (cl : List (Str × Addr)) (fp : List Addr), PTs (X.blk s H scope (compEnvC scope cl C X.env) fp) ifs (LT X.K W0 cond))
    (he : ∀ (s : Shared) (H : Hp) (C : Addr) (cl : List (Str × Addr)) (fp : List Addr), PE (X.blk s H scope (compEnvC scope cl C X.env) fp) elt (L X.K W0 true de)) (hs : ∀ x, foldedSetIterable iter X.env x = pure x := by intro _; rfl) :
    PE X (.ListComp elt [⟨tg, iter, ifs, 0⟩] scope pos) (L X.K W true (dLc di dg cond de (own.map (·.2)))) := imE (pe_lc hc hN hi ok hg ht he hs) l_lc
theorem qts_nil : PTs X [] (LT X.K W dYes) := ⟨fun pins s t H Q I ⟨B, r, xc, P, k, en, h, hx, hq⟩ => pts_nil.run pins s t H Q I (hq true H B (.refl k) h)⟩
theorem qts_one {c : Expr} {t : DT} (h : PT X c (LT X.K W t)) : PTs X [c] (LT X.K W t) := pts_one h
/-! ### calls of the text's own defs -/
def dCall (sp : DSp) (da : DA) : DE := fun xc r P => da xc r fun ds => sp ds (fun _ => False) P
def dCallX (sp : DSp) (da : DA) : DE := fun xc r P => da xc r fun ds => sp ds (fun e => xc e r) P
theorem q_call {x : Str} {p pos : Pos} {e : Expr} {es : List Expr} {k : Nat} {f : Addr} {fd : FuncData} {ps : List Str} {sp : DSp} {da : DA} (F : FnOk X.prog X.w X.K X.mg X.base CX0 k f fd ps (spD X.K sp)) (hr : Room k X.A) (hg : Gl X x) (hm : X.mg x = some (.ref f)) (hk : PySem.W.keepIn X.K (.ref f) = true) (hb : Binds X.K fd ps [])
    (ha : PA X (e :: es) (LA X.K W da)) (hdb : (x == ("__debug__" : Str)) = false := by decide) (he : starEach (e :: es) X.env = (false, eval e X.env) :: starEach es X.env := by rfl) (hpl : (backTo pos (starEach es X.env)).any (·.1) = false := by rfl) :
    PE X (.Call (.Name x p) (e :: es) [] pos) (L X.K W true (dCall sp da)) := by
  refine imE (pe_call F hr hg hm hk hb .nil pass0 ha hdb he hpl) fun s H Q ⟨B, r, xc, P, k, en, h, hx, hq⟩ => ⟨B, r, xc, _, k, en, h, hx, fun vs ds H1 B1 s1 rl q => ?_⟩
  show spD X.K sp (vs ++ []) H1 Q E0
  rw [List.append_nil]
  exact ⟨B1, ds, _, P, s1.sub, rl, q, fun _ _ _ _ _ _ _ z => z.elim, fun v x H' B' s2 rv fr p => hq v x H' B' (s1.trans s2) rv (fun _ => fr.back s1) p⟩
theorem q_call0 {x : Str} {p pos : Pos} {k : Nat} {f : Addr} {fd : FuncData} {ps : List Str} {sp : DSp} (F : FnOk X.prog X.w X.K X.mg X.base CX0 k f fd ps (spD X.K sp)) (hr : Room k X.A) (hg : Gl X x) (hm : X.mg x = some (.ref f)) (hk : PySem.W.keepIn X.K (.ref f) = true) (hb : Binds X.K fd ps [])
    (hdb : (x == ("__debug__" : Str)) = false := by decide) : PE X (.Call (.Name x p) [] [] pos) (L X.K W true (dCall sp dNil)) := by
  refine imE (pe_call0 F hr hg hm hk hb .nil pass0 hdb) fun s H Q ⟨B, r, xc, P, k, en, h, hx, hq⟩ => ?_
  exact ⟨B, [], _, P, k, .nil, h, fun _ _ _ _ _ _ _ z => z.elim, fun v x H' B' s2 rv fr p => hq v x H' B' s2 rv (fun _ => fr) p⟩
theorem q_callX {x : Str} {p pos : Pos} {e : Expr} {es : List Expr} {k : Nat} {f : Addr} {fd : FuncData} {ps : List Str} {sp : DSp} {da : DA} (F : FnOk X.prog X.w X.K X.mg X.base (L2.CX X.prog X.w) k f fd ps (spD X.K sp)) (hr : Room k X.A) (hg : Gl X x) (hm : X.mg x = some (.ref f)) (hk : PySem.W.keepIn X.K (.ref f) = true) (hb : Binds X.K fd ps [])
    (tk : Takes X W) (ha : PA X (e :: es) (LA X.K W da)) (hdb : (x == ("__debug__" : Str)) = false := by decide) (he : starEach (e :: es) X.env = (false, eval e X.env) :: starEach es X.env := by rfl) (hpl : (backTo pos (starEach es X.env)).any (·.1) = false := by rfl) :
    PE X (.Call (.Name x p) (e :: es) [] pos) (L X.K W true (dCallX sp da)) := by
  refine imE (pe_callS F hr hg hm hk hb (fun s => passAt tk s) ha hdb he hpl) fun s H Q ⟨B, r, xc, P, k, en, h, hx, hq⟩ => ⟨B, r, xc, _, k, en, h, hx, fun vs ds H1 B1 s1 rl q => ?_⟩
  exact ⟨B1, ds, _, P, s1.sub, rl, q, fun cls d e H' B' s2 => hx cls d e H' B' (s1.trans s2), fun v x H' B' s2 rv fr p => hq v x H' B' (s1.trans s2) rv (fun _ => fr.back s1) p⟩
/-! ### statements -/
def dNext : DS := fun _ E r => E.nx r
def dSeq (t u : DS) : DS := fun xc E r => t xc { E with nx := u xc E } r
def dSet (i : Nat) (de : DE) : DS := fun xc E r => de xc r fun x => E.nx (st r i (some x))
def dRet (de : DE) : DS := fun xc E r => de xc r E.rt
/-- return x, x a local: what it owns goes with it -/
def dRetV (i : Nat) : DS := fun xc E r => match lk r i with
  | some x => E.rt x
  | none => False
def dRetN : DS := fun _ E _ => E.rt (.dat .non)
def dDrop (de : DE) : DS := fun xc E r => de xc r fun _ => E.nx r
def dIfS (t : DT) (u v : DS) : DS := fun xc E r => t xc r fun b => ifB b (u xc E r) (v xc E r)
def dBreak : DS := fun _ E r => E.bk r
def dCont : DS := fun _ E r => E.ct r
theorem ls_nx {E : Ends} {s : L2.St} {H B : Hp} {r : DEnv} {ds : DS} (h : LS X.K W ds E s H) : ∃ B r xc De, Kp B H ∧ EnvRep X.K B H s r ∧ ds xc De r ∧ True := by
  obtain ⟨B, r, xc, De, k, en, h, _⟩ := h
  exact ⟨B, r, xc, De, k, en, h, trivial⟩
theorem qss_nil : PSs X [] (LS X.K W dNext) := imSs pss_nil fun E s H ⟨B, r, xc, De, k, en, h, hx, nx, bk, ct, rt⟩ => nx s r H B (.refl k) en h
theorem qs_pass {pos : Pos} : PS X (.Pass pos) (LS X.K W dNext) := imS ps_pass fun E s H ⟨B, r, xc, De, k, en, h, hx, nx, bk, ct, rt⟩ => nx s r H B (.refl k) en h
theorem qs_break {pos : Pos} : PS X (.Break pos) (LS X.K W dBreak) := imS ps_break fun E s H ⟨B, r, xc, De, k, en, h, hx, nx, bk, ct, rt⟩ => bk s r H B (.refl k) en h
theorem qs_continue {pos : Pos} : PS X (.Continue pos) (LS X.K W dCont) := imS ps_continue fun E s H ⟨B, r, xc, De, k, en, h, hx, nx, bk, ct, rt⟩ => ct s r H B (.refl k) en h
theorem qss_one {a : Stmt} {t : DS} (h : PS X a (LS X.K W t)) : PSs X [a] (LS X.K W t) := pss_one h
theorem qss_cons {a : Stmt} {rest : List Stmt} {t u : DS} (h1 : PS X a (LS X.K W t)) (h2 : PSs X rest (LS X.K W u)) : PSs X (a :: rest) (LS X.K W (dSeq t u)) := by
  refine imSs (pss_cons h1 h2) fun E s H ⟨B, r, xc, De, k, en, h, hx, nx, bk, ct, rt⟩ => ?_
  refine ⟨B, r, xc, { De with nx := u xc De }, k, en, h, hx, fun s' r' H' B' z en' q => ?_, bk, ct, rt⟩
  exact ⟨B', r', xc, De, z.sub, en', q, fun cls d e s2 r2 H2 B2 z2 => hx cls d e s2 r2 H2 B2 (z.trans z2), fun s2 r2 H2 B2 z2 => nx s2 r2 H2 B2 (z.trans z2), fun s2 r2 H2 B2 z2 => bk s2 r2 H2 B2 (z.trans z2), fun s2 r2 H2 B2 z2 => ct s2 r2 H2 B2 (z.trans z2), fun v x H2 B2 z2 => rt v x H2 B2 (z.trans z2)⟩
theorem StepS.set {B H B' H' : Hp} {s : L2.St} {r : DEnv} {i : Nat} {v : V} {x : Val} (z : Step B H B' H') (f : Fr H v x) : StepS B H s r B' H' (s.set i (some v)) (st r i (some x)) :=
  ⟨z.kp, z.sub, fun a o h n w => ⟨(z.out a o h n).1, (z.out a o h n).2, fun ow => (Owns.set ow).elim w fun ⟨e, c, ex⟩ => (by rw [f a c e ex] at h; cases h)⟩, fun _ _ h => z.has h⟩
theorem EnvRep.setN {K : PySem.W.Frag} {B H B' H' : Hp} {s : L2.St} {r : DEnv} {i : Nat} {v : V} {x : Val} (en : EnvRep K B H s r) (z : Step B H B' H') (rv : RepV K B' H' v x) (f : Fr H v x) : EnvRep K B' H' (s.set i (some v)) (st r i (some x)) :=
  (en.step z).set rv fun a c e ex ow => by
    obtain ⟨_, o, h⟩ := en.owned ow
    rw [f a c e ex] at h
    cases h
theorem qs_set {i : Nat} {x : Str} {e : Expr} {de : DE} {pos pos' : Pos} (hN : X.N.Nodup) (hi : X.N[i]? = some x) (hx : Loc X.env.scope x) (he : PE X e (L X.K W true de)) (hs : swapsWith e (some (.Name x pos')) pos.line X.env = pure false := by rfl) (hf : X.fn x = true ∨ X.env.scope.names.lookup x = some .local := by first | exact .inl rfl | exact .inr rfl | assumption) :
    PS X (.Assign [.Name x pos'] e pos) (LS X.K W (dSet i de)) := by
  refine imS (ps_set hN hi hx he hs hf) fun E s H ⟨B, r, xc, De, k, en, h, hx, nx, bk, ct, rt⟩ => ?_
  exact ⟨B, r, xc, _, k, en, h, fun cls d e H' B' z => hx cls d e s r H' B' z.s (en.step z), fun v x H' B' z rv fr p => nx _ _ H' B' (.set z (fr rfl)) (en.setN z rv (fr rfl)) p⟩
theorem step_rt {B H B' H' : Hp} {s : L2.St} {r : DEnv} {v : V} {x : Val} (z : Step B H B' H') (f : Fr H v x) : StepS B H s r B' H' [some v] [some x] :=
  ⟨z.kp, z.sub, fun a o h n w => ⟨(z.out a o h n).1, (z.out a o h n).2, fun ow => by
    obtain ⟨j, c, h1, h2⟩ := ow
    cases j with
    | zero =>
      have e1 : x = .tmp c := Option.some.inj h1
      have e2 : v = .ref a := Option.some.inj (Option.some.inj h2)
      rw [f a c e2 e1] at h
      cases h
    | succ j => cases h1⟩, fun _ _ h => z.has h⟩
theorem qs_ret {e : Expr} {de : DE} {pos : Pos} (he : PE X e (L X.K W true de)) : PS X (.Return (some e) pos) (LS X.K W (dRet de)) := by
  refine imS (ps_ret he) fun E s H ⟨B, r, xc, De, k, en, h, hx, nx, bk, ct, rt⟩ => ?_
  exact ⟨B, r, xc, _, k, en, h, fun cls d e H' B' z => hx cls d e s r H' B' z.s (en.step z), fun v x H' B' z rv fr p => rt v x H' B' (step_rt z (fr rfl)) rv p⟩
theorem qs_retV (i : Nat) {x : Str} {pos pos' : Pos} (hN : X.N[i]? = some x := by rfl) (hv : Vis X.env.scope x := by first | exact Or.inl rfl | exact Or.inr (Or.inl rfl) | exact Or.inr (Or.inr rfl)) (hd : (x == ("__debug__" : Str)) = false := by decide)
    (hcd : (x == ("__classdict__" : Str)) = false := by decide) : PS X (.Return (some (.Name x pos)) pos') (LS X.K W (dRetV i)) := by
  refine imS (ps_ret (pv i hN hv hd hcd)) fun E s H ⟨B, r, xc, De, k, en, h, hx, nx, bk, ct, rt⟩ => ?_
  unfold dRetV at h
  cases e : lk r i with
  | none => rw [e] at h; exact h.elim
  | some y =>
    rw [e] at h
    obtain ⟨v, h1, h2⟩ := en.at_ i y e
    refine ⟨v, h1, rt v y H B ⟨.refl B, k, fun a o ha n w => ⟨ha, n, fun ow => ?_⟩, fun _ o h => ⟨o, h⟩⟩ h2 h⟩
    obtain ⟨j, c, q1, q2⟩ := ow
    cases j with
    | zero =>
      have e1 : y = .tmp c := Option.some.inj q1
      have e2 : v = .ref a := Option.some.inj (Option.some.inj q2)
      rw [e2] at h1
      rw [e1] at e
      exact w ⟨i, c, e, h1⟩
    | succ j => cases q1
theorem qs_retN {pos : Pos} : PS X (.Return none pos) (LS X.K W dRetN) := by
  refine imS ps_retN fun E s H ⟨B, r, xc, De, k, en, h, hx, nx, bk, ct, rt⟩ => ?_
  exact rt .non (.dat .non) H B (step_rt (.refl k) Fr.dat) .non h
theorem qs_expr {e : Expr} {de : DE} {pos : Pos} {f : Bool} (he : PE X e (L X.K W f de)) (hs : swapsWith e none pos.line X.env = pure false := by rfl) : PS X (.Expr e pos) (LS X.K W (dDrop de)) := by
  refine imS (ps_expr he hs) fun E s H ⟨B, r, xc, De, k, en, h, hx, nx, bk, ct, rt⟩ => ?_
  exact ⟨B, r, xc, _, k, en, h, fun cls d e H' B' z => hx cls d e s r H' B' z.s (en.step z), fun v x H' B' z rv fr p => nx _ _ H' B' z.s (en.step z) p⟩
theorem qs_if {c : Expr} {a b : List Stmt} {pos : Pos} {t : DT} {u v : DS} (hc : PT X c (LT X.K W t)) (ha : PSs X a (LS X.K W u)) (hb : PSs X b (LS X.K W v)) : PS X (.If c a b pos) (LS X.K W (dIfS t u v)) := by
  refine imS (ps_if hc ha hb) fun E s H ⟨B, r, xc, De, k, en, h, hx, nx, bk, ct, rt⟩ => ?_
  refine ⟨B, r, xc, _, k, en, h, fun cls d e H' B' z => hx cls d e s r H' B' z.s (en.step z), fun b H1 B1 z q => ?_⟩
  cases b with
  | true =>
    unfold ifB at q; rw [if_pos rfl] at q ⊢
    exact ⟨B1, r, xc, De, z.sub, en.step z, q, fun cls d e s2 r2 H2 B2 z2 => hx cls d e s2 r2 H2 B2 (z.s.trans z2), fun s2 r2 H2 B2 z2 => nx s2 r2 H2 B2 (z.s.trans z2), fun s2 r2 H2 B2 z2 => bk s2 r2 H2 B2 (z.s.trans z2), fun s2 r2 H2 B2 z2 => ct s2 r2 H2 B2 (z.s.trans z2), fun v x H2 B2 z2 => rt v x H2 B2 (z.s.trans z2)⟩
  | false =>
    unfold ifB at q; rw [if_neg Bool.false_ne_true] at q ⊢
    exact ⟨B1, r, xc, De, z.sub, en.step z, q, fun cls d e s2 r2 H2 B2 z2 => hx cls d e s2 r2 H2 B2 (z.s.trans z2), fun s2 r2 H2 B2 z2 => nx s2 r2 H2 B2 (z.s.trans z2), fun s2 r2 H2 B2 z2 => bk s2 r2 H2 B2 (z.s.trans z2), fun s2 r2 H2 B2 z2 => ct s2 r2 H2 B2 (z.s.trans z2), fun v x H2 B2 z2 => rt v x H2 B2 (z.s.trans z2)⟩
/-- a loop over these things: I by the turn and the names -/
def Fo (tg : DG) (body : DS) (xc : DX) (E : DEnds) (r : DEnv) (items : List D) : Prop := ∃ I : Nat → DEnv → Prop, I 0 r ∧
  (∀ i x r, items[i]? = some x → I i r → tg x r fun r2 => body xc { E with nx := I (i + 1), ct := I (i + 1), bk := E.nx } r2) ∧ ∀ r, I items.length r → E.nx r
def dFor (di : DI) (tg : DG) (body : DS) : DS := fun xc E r => di xc r (Fo tg body xc E r)
theorem qs_for {tg iter : Expr} {body : List Stmt} {pos : Pos} {di : DI} {dg : DG} {vs : List Nat} {db : DS} (hp : PassesOwn (model X.prog X.w) X.A X.env X.xe) (hc : X.calm = true) (hi : PI X tg iter (LI X.K W di)) (hg : PG X tg (LG X.K vs dg)) (hb : PSs X body (LS X.K W db))
    (hs : ∀ x, foldedSetIterable iter X.env x = pure x := by intro _; rfl) : PS X (.For tg iter body [] pos) (LS X.K W (dFor di dg db)) := by
  refine imS (ps_for hp hc hi hg hb hs) fun E s H ⟨B, r, xc, De, k, en, h, hx, nx, bk, ct, rt⟩ => ?_
  refine ⟨B, r, xc, _, k, en, h, fun cls d e H' B' z => hx cls d e s r H' B' z.s (en.step z), fun J items H1 B1 src z1 hsrc it q => ?_⟩
  obtain ⟨I, i0, turn, fin⟩ := q
  refine ⟨fun i m s2 H2 => ∃ B2 r2, m = items.length - i ∧ i ≤ items.length ∧ StepS B1 H1 s r B2 H2 s2 r2 ∧ EnvRep X.K B2 H2 s2 r2 ∧ I i r2, ⟨items.length, B1, r, by omega, Nat.zero_le _, .refl z1.sub, en.step z1, i0⟩, ?_⟩
  rintro i m s2 H2 ⟨B2, r2, rfl, hi, z2, en2, inv⟩
  have src2 : ∀ p o, src p → H1 p = some o → H2 p = some o ∧ B2 p = none := fun p o hp ho => by
    obtain ⟨h0, h1, _⟩ := hsrc p hp
    have w : ¬ Owns s r p := fun ow => by
      obtain ⟨_, o, h⟩ := en.owned ow
      rw [h0] at h
      cases h
    exact ⟨(z2.out p o ho h1 w).1, (z2.out p o ho h1 w).2.1⟩
  have zz := it B2 H2 i z2.kp z2.sub src2
  by_cases hlt : i < items.length
  · obtain ⟨d, hd⟩ : ∃ d, items[i]? = some d := ⟨items[i], by simp [hlt]⟩
    obtain ⟨go, yl⟩ := zz.1 d hd
    refine .inr ⟨go, fun s3 H3 => ∃ B3 r3, StepS B1 H1 s r B3 H3 s3 r3 ∧ EnvRep X.K B3 H3 s3 r3 ∧ I (i + 1) r3, fun s3 H3 ⟨B3, r3, z3, en3, inv3⟩ => ⟨items.length - (i + 1), by omega, B3, r3, rfl, hlt, z3, en3, inv3⟩, fun x H3 y => ?_⟩
    obtain ⟨B3, z3, rx⟩ := yl x H3 y
    have en3 := en2.step z3
    refine ⟨B3, r2, d, _, z3.sub, en3, rx, turn i d r2 hd inv, fun s4 r4 en4 hw ow q => ?_⟩
    have z4 : StepS B1 H1 s r B3 H3 s4 r4 := z2.trans ⟨z3.kp, z3.sub, fun a o h n w => ⟨(z3.out a o h n).1, (z3.out a o h n).2, fun q => w (ow a q)⟩, fun _ _ h => z3.has h⟩
    exact ⟨B3, r4, xc, _, z3.sub, en4, q, fun cls d e s5 r5 H5 B5 z5 => hx cls d e s5 r5 H5 B5 (z1.s.trans (z4.trans z5)), fun s5 r5 H5 B5 z5 en5 q5 => ⟨B5, r5, z4.trans z5, en5, q5⟩, fun s5 r5 H5 B5 z5 => nx s5 r5 H5 B5 (z1.s.trans (z4.trans z5)), fun s5 r5 H5 B5 z5 en5 q5 => ⟨B5, r5, z4.trans z5, en5, q5⟩, fun v x H5 B5 z5 => rt v x H5 B5 (z1.s.trans (z4.trans z5))⟩
  · have e : i = items.length := by omega
    subst e
    exact .inl ⟨zz.2 rfl, nx s2 r2 H2 B2 (z1.s.trans z2) en2 (fin r2 inv)⟩
def dWhile (t : DT) (body : DS) : DS := fun xc E r => ∃ I : Nat → DEnv → Prop, (∃ m, I m r) ∧ ∀ m r, I m r → t xc r fun b => ifB b (body xc { E with nx := fun r => ∃ m', m' < m ∧ I m' r, ct := fun r => ∃ m', m' < m ∧ I m' r, bk := E.nx } r) (E.nx r)
/-! ### a local's own container -/
theorem own_at {K : PySem.W.Frag} {B H : Hp} {s : L2.St} {r : DEnv} {i : Nat} {c : Ct} (en : EnvRep K B H s r) (h : lk r i = some (.tmp c)) : ∃ p, s[i]? = some (some (.ref p)) ∧ B p = none ∧ RepC K B H p c := by
  obtain ⟨v, h1, p, rfl, n, w⟩ := en.at_ i _ h
  exact ⟨p, h1, n, w⟩
theorem own_write {K : PySem.W.Frag} {B H : Hp} {s : L2.St} {r : DEnv} {i : Nat} {c c' : Ct} {p : Addr} {o : HO} (k : Kp B H) (en : EnvRep K B H s r) (h : lk r i = some (.tmp c)) (hs : s[i]? = some (some (.ref p))) (n : B p = none) (w : RepC K B (upd H p o) p c') :
    EnvRep K B (upd H p o) s (st r i (some (.tmp c'))) ∧ StepS B H s r B (upd H p o) s (st r i (some (.tmp c'))) := by
  have hi : i < r.length := lk_lt h
  have ownp : Owns s r p := ⟨i, c, h, hs⟩
  refine ⟨⟨by rw [st_length, en.len], fun j x hj => ?_, fun j l c1 c2 a h1 h2 h3 h4 => ?_⟩, .refl B, k.upd n, fun a u ha nb nw => ?_, fun a u ha => by
    by_cases e : a = p
    · subst e; exact ⟨o, upd_same⟩
    · rw [upd_ne e]; exact ⟨u, ha⟩⟩
  · by_cases z : i = j
    · subst z
      rw [lk_st_same hi] at hj
      cases hj
      exact ⟨.ref p, hs, p, rfl, n, w⟩
    · rw [lk_st_ne z] at hj
      obtain ⟨v, h1, h2⟩ := en.at_ j x hj
      refine ⟨v, h1, ?_⟩
      cases x with
      | dat d => exact h2
      | tmp c2 =>
        obtain ⟨q, rfl, n2, w2⟩ := h2
        have ne : q ≠ p := fun e => by
          subst e
          exact z (en.dis i j c c2 q h hj hs h1)
        exact ⟨q, rfl, n2, w2.move (.refl B) fun u hu => by rw [upd_ne ne]; exact hu⟩
  · have g : ∀ {j : Nat} {c1 : Ct}, lk (st r i (some (.tmp c'))) j = some (.tmp c1) → ∃ c3, lk r j = some (.tmp c3) := fun {j c1} hh => by
      by_cases z : i = j
      · subst z
        exact ⟨c, h⟩
      · rw [lk_st_ne z] at hh
        exact ⟨c1, hh⟩
    obtain ⟨c3, g1⟩ := g h1
    obtain ⟨c4, g2⟩ := g h2
    exact en.dis j l c3 c4 a g1 g2 h3 h4
  · have ne : a ≠ p := fun e => by
      subst e
      exact nw ownp
    rw [upd_ne ne]
    refine ⟨ha, nb, fun ow => ?_⟩
    obtain ⟨j, c1, h1, h2⟩ := ow
    by_cases z : i = j
    · subst z
      rw [hs] at h2
      cases h2
      exact ne rfl
    · rw [lk_st_ne z] at h1
      exact nw ⟨j, c1, h1, h2⟩
/-- x.append(e), x a local that owns its list -/
def dAppend (i : Nat) (de : DE) : DS := fun xc E r => match lk r i with
  | some (.tmp (.lst l)) => de xc r fun x => asD (fun d => l.length < sizeLine ∧ E.nx (st r i (some (.tmp (.lst (l ++ [d])))))) x
  | _ => False
theorem qs_append {i : Nat} {x : Str} {e : Expr} {de : DE} {p1 p2 p3 pos : Pos} (hx : PE X (.Name x p1) (tVar i)) (he : PE X e (L X.K W true de))
    (h : PE X (.Call (.Attribute (.Name x p1) "append" p2) [e] [] p3) (tBM X.K "list" rAppend (tVar i) (tCons (L X.K W true de) tNil)))
    (hs : swapsWith (.Call (.Attribute (.Name x p1) "append" p2) [e] [] p3) none pos.line X.env = pure false := by rfl) : PS X (.Expr (.Call (.Attribute (.Name x p1) "append" p2) [e] [] p3) pos) (LS X.K W (dAppend i de)) := by
  refine imS (ps_expr h hs) fun E s H ⟨B, r, xc, De, k, en, h, hx, nx, bk, ct, rt⟩ => ?_
  unfold dAppend at h
  split at h
  · rename_i l hl
    obtain ⟨p, hp, n, w⟩ := own_at en hl
    obtain ⟨vs, hv, rl⟩ := id w
    refine ⟨.ref p, hp, .inl ⟨rfl, vs, .inl (.inl hv)⟩, ?_⟩
    refine ⟨B, r, xc, _, k, en, h, fun cls d e H' B' z => hx cls d e s r H' B' z.s (en.step z), fun v x H1 B1 z rv fr q => ?_⟩
    cases x with
    | tmp c => exact q.elim
    | dat d =>
      obtain ⟨hlen, q⟩ := q
      have hv1 := z.out p _ hv n
      have rl1 := rl.mono z.kp
      obtain ⟨en2, z2⟩ := own_write (o := .lst (vs ++ [v])) (c' := .lst (l ++ [d])) z.sub (en.step z) hl hp hv1.2 ⟨_, upd_same, rl1.append (.cons rv .nil)⟩
      exact ⟨p, vs, v, rfl, rfl, hv1.1, by rw [rl1.length]; exact hlen, nx _ _ _ _ (z.s.trans z2) en2 q⟩
  · exact h.elim
/-- a local's own container becomes shared -/
def fz (r : DEnv) (i : Nat) : DEnv := match lk r i with
  | some (.tmp c) => st r i (some (.dat c.d))
  | _ => r
def dFz (i : Nat) (ds : DS) : DS := fun xc E r => (match lk r i with
  | some (.tmp c) => c.safe
  | _ => True) ∧ ds xc E (fz r i)
theorem fz_step {K : PySem.W.Frag} {B H : Hp} {s : L2.St} {r : DEnv} (i : Nat) (k : Kp B H) (en : EnvRep K B H s r) (hc : match lk r i with
  | some (.tmp c) => c.safe
  | _ => True) : ∃ B', StepS B H s r B' H s (fz r i) ∧ EnvRep K B' H s (fz r i) := by
  unfold fz
  split
  · rename_i c hl
    rw [hl] at hc
    obtain ⟨p, hp, n, w⟩ := own_at en hl
    obtain ⟨o, ho⟩ := w.has
    have kp : Kp B (upd B p o) := .new n
    have sub : Kp (upd B p o) H := fun a u e => by
      by_cases z : a = p
      · subst z
        rw [upd_same] at e
        cases e
        exact ⟨fun _ => ho, fun d => ⟨_, ho, .refl d⟩⟩
      · rw [upd_ne z] at e
        exact k a u e
    have rd : Rep K (upd B p o) (.ref p) c.d := by
      cases c with
      | lst ds =>
        obtain ⟨vs, h, r⟩ := w
        rw [ho] at h
        cases h
        exact .lst upd_same (r.mono kp)
      | dic ds =>
        obtain ⟨vs, h, r⟩ := id w
        have nd := safe_nd (K := K) (B := B) (H := H) (v := .ref p) (x := .tmp (.dic ds)) ⟨p, rfl, n, w⟩ hc ds rfl p vs rfl h
        rw [ho] at h
        cases h
        exact .dic upd_same nd (r.mono kp)
    have hi := lk_lt hl
    have en2 : EnvRep K (upd B p o) H s (st r i (some (.dat c.d))) := by
      refine ⟨by rw [st_length, en.len], fun j x hj => ?_, fun j l c1 c2 a h1 h2 h3 h4 => ?_⟩
      · by_cases z : i = j
        · subst z
          rw [lk_st_same hi] at hj
          cases hj
          exact ⟨.ref p, hp, rd⟩
        · rw [lk_st_ne z] at hj
          obtain ⟨v, h1, h2⟩ := en.at_ j x hj
          refine ⟨v, h1, ?_⟩
          cases x with
          | dat d => exact Rep.mono kp h2
          | tmp c2 =>
            obtain ⟨q, rfl, n2, w2⟩ := h2
            have ne : q ≠ p := fun e => by
              subst e
              exact z (en.dis i j c c2 q hl hj hp h1)
            exact ⟨q, rfl, by rw [upd_ne ne]; exact n2, w2.move kp fun u hu => hu⟩
      · have g : ∀ {j : Nat} {c1 : Ct}, lk (st r i (some (.dat c.d))) j = some (.tmp c1) → lk r j = some (.tmp c1) := fun {j c1} hh => by
          by_cases z : i = j
          · subst z
            rw [lk_st_same hi] at hh
            cases hh
          · rw [lk_st_ne z] at hh
            exact hh
        exact en.dis j l c1 c2 a (g h1) (g h2) h3 h4
    have z : StepS B H s r (upd B p o) H s (st r i (some (.dat c.d))) := ⟨kp, sub, fun a u ha nb w2 => by
      have ne : a ≠ p := fun e => by
        subst e
        exact w2 ⟨i, c, hl, hp⟩
      rw [upd_ne ne]
      refine ⟨ha, nb, fun ow => ?_⟩
      obtain ⟨j, c1, h1, h2⟩ := ow
      by_cases z : i = j
      · subst z
        rw [lk_st_same hi] at h1
        cases h1
      · rw [lk_st_ne z] at h1
        exact w2 ⟨j, c1, h1, h2⟩, fun _ u h => ⟨u, h⟩⟩
    exact ⟨upd B p o, z, en2⟩
  · exact ⟨B, .refl k, en⟩
theorem qs_fz (i : Nat) {a : Stmt} {ds : DS} (h : PS X a (LS X.K W ds)) : PS X a (LS X.K W (dFz i ds)) := by
  refine imS h fun E s H ⟨B, r, xc, De, k, en, h, hx, nx, bk, ct, rt⟩ => ?_
  obtain ⟨hc, h⟩ := h
  obtain ⟨B', z, en2⟩ := fz_step i k en hc
  exact ⟨B', _, xc, De, z.sub, en2, h, fun cls d e s2 r2 H2 B2 z2 => hx cls d e s2 r2 H2 B2 (z.trans z2), fun s2 r2 H2 B2 z2 => nx s2 r2 H2 B2 (z.trans z2), fun s2 r2 H2 B2 z2 => bk s2 r2 H2 B2 (z.trans z2), fun s2 r2 H2 B2 z2 => ct s2 r2 H2 B2 (z.trans z2), fun v x H2 B2 z2 => rt v x H2 B2 (z.trans z2)⟩
end
/-! ### a def keeps its promise -/
def args (N : List Str) (ds : List D) : DEnv := ds.map (fun d => some (.dat d)) ++ List.replicate (N.length - ds.length) none
theorem args_own {N : List Str} {ds : List D} {i : Nat} {c : Ct} : lk (args N ds) i ≠ some (.tmp c) := by
  unfold args
  intro h
  have g : ∀ (l : List D) (m : List (Option Val)) (i : Nat), (∀ i, lk m i = none) → lk (l.map (fun d => some (.dat d)) ++ m) i ≠ some (.tmp c) := by
    intro l
    induction l with
    | nil => intro m i hm h; rw [List.map_nil, List.nil_append, hm] at h; cases h
    | cons d l ih =>
      intro m i hm h
      cases i with
      | zero => cases h
      | succ i => exact ih m i hm h
  refine g ds _ i (fun i => ?_) h
  generalize N.length - ds.length = n
  induction n generalizing i with
  | zero => rfl
  | succ n ih =>
    cases i with
    | zero => rfl
    | succ i => exact ih i
theorem lk_eq : ∀ (e : DEnv) (i : Nat), lk e i = (e[i]?).getD none
  | [], _ => rfl
  | _ :: _, 0 => rfl
  | _ :: r, i + 1 => by
    show lk r i = ((_ :: r)[i + 1]?).getD none
    rw [lk_eq r i, List.getElem?_cons_succ]
theorem args_rep {K : PySem.W.Frag} {B H : Hp} {N : List Str} {vs : List V} {ds : List D} (r : RepL K B vs ds) : EnvRep K B H (L2.start N vs) (args N ds) := by
  refine ⟨by unfold L2.start args; simp [r.length], fun i x h => ?_, fun i j c c' a h => absurd h args_own⟩
  rw [lk_eq] at h
  unfold args at h
  unfold L2.start
  by_cases hi : i < ds.length
  · rw [List.getElem?_append_left (by rw [List.length_map]; exact hi), List.getElem?_map] at h
    cases e : ds[i]? with
    | none => rw [e] at h; cases h
    | some d =>
      rw [e] at h
      cases h
      obtain ⟨v, hv, rv⟩ := r.get e
      refine ⟨v, ?_, rv⟩
      rw [List.getElem?_append_left (by rw [List.length_map, r.length]; exact hi), List.getElem?_map, hv]
      rfl
  · rw [List.getElem?_append_right (by rw [List.length_map]; omega), List.getElem?_replicate] at h
    split at h <;> cases h
section
variable {P : Program} {w : World} {K : PySem.W.Frag} {mg : Str → Option Value} {base : Heap}
theorem noOwn {N : List Str} {ds : List D} {vs : List V} {a : Addr} : ¬ Owns (L2.start N vs) (args N ds) a := fun ⟨_, _, h, _⟩ => args_own h
/-- a def that raises nothing -/
theorem fn_d {x qual : Str} {sm : Stmt} {f : Addr} {fd : FuncData} {N ps : List Str} {k : Nat} {sp : DSp} {body : DS} (F : Fun K x qual sm f fd) (S : FnScope N ps (defScope sm))
    (len : ∀ ds xc R, sp ds xc R → ds.length = ps.length)
    (hb : ∀ (cdv : Value) (A : Around) (outer : List Env) (s : Shared) (H : Hp), Room k (A.deeper (envOfC qual (defScope sm) s.heap.objs.size f cdv)) →
      PSs (cxOf CX0 P w K mg base N qual (defScope sm) f cdv A outer s H E0).nox (defBody sm) (LS K W0 body))
    (h : ∀ ds xc R, sp ds xc R → body X0 { nx := fun _ => R (.dat .non), rt := R } (args N ds)) : FnOk P w K mg base CX0 (k + 1) f fd ps (spD K sp) := by
  refine F.ok S (fun vs H Q E hq => ?_) (fun cdv A outer s H vs Q E hr hq => ?_)
  · obtain ⟨B, ds, xc, R, k, rl, hs, _⟩ := hq
    rw [rl.length]
    exact len ds xc R hs
  · obtain ⟨B, ds, xc, R, k, rl, hs, _, rt⟩ := hq
    refine ⟨_, hb cdv A outer s H hr, ?_⟩
    refine ⟨B, args N ds, X0, _, k, args_rep rl, h ds xc R hs, fun _ _ _ _ _ _ _ _ _ _ z => z.elim, fun s' r' H' B' z en q => ?_, fun _ _ _ _ _ _ z => z.elim, fun _ _ _ _ _ _ z => z.elim, fun v x H' B' z rv q => ?_⟩
    · exact rt .non (.dat .non) H' B' ⟨z.kp, z.sub, fun a o ha n => ⟨(z.out a o ha n noOwn).1, (z.out a o ha n noOwn).2.1⟩⟩ .non Fr.dat q
    · refine rt v x H' B' ⟨z.kp, z.sub, fun a o ha n => ⟨(z.out a o ha n noOwn).1, (z.out a o ha n noOwn).2.1⟩⟩ rv (fun p c e1 e2 => ?_) q
      subst e1 e2
      cases e : H p with
      | none => rfl
      | some o =>
        cases eb : B p with
        | none => exact absurd ⟨0, c, rfl, rfl⟩ (z.out p o e eb noOwn).2.2
        | some u =>
          obtain ⟨q2, h2, n2, _⟩ := rv
          cases h2
          obtain ⟨u2, h3⟩ := z.kp.some eb
          rw [n2] at h3
          cases h3
end
end Dl
/-! Dl4: subscripts, slices, calls of built-ins, methods of texts, displays of dicts. -/
namespace Dl
open PySem PySem.Spec PyProof.Rows L2
section
variable {X : Cx} {W : WX}
/-! ### subscripts -/
theorem atI_rep {K : PySem.W.Frag} {B : Hp} {vs : List V} {ds : List D} (r : RepL K B vs ds) {i : Int} {d : D} (h : atI ds i = some d) : ∃ v, atI vs i = some v ∧ Rep K B v d := by
  unfold atI at h ⊢
  rw [r.length]
  cases e : ixN ds.length i with
  | none => rw [e] at h; cases h
  | some j =>
    rw [e] at h
    exact r.get (i := j) h
/-- some a, of which P holds -/
def onO {α : Type} : Option α → (α → Prop) → Prop
  | some a, P => P a
  | none, _ => False
theorem onO_elim {α : Type} {o : Option α} {P : α → Prop} (h : onO o P) : ∃ a, o = some a ∧ P a := by
  cases o with
  | none => exact h.elim
  | some a => exact ⟨a, rfl, h⟩
theorem onO_of {α : Type} {o : Option α} {P : α → Prop} {a : α} (e : o = some a) (h : P a) : onO o P := by
  rw [e]
  exact h
def fIxD (P : Val → Prop) : D → D → Prop
  | .tup l, .int i => onO (atI l i) fun d => P (.dat d)
  | .lst l, .int i => onO (atI l i) fun d => P (.dat d)
  | .scr l, .int i => onO (atI l i) fun n => P (.dat (.int n))
  | .str z, .int i => z.length ≤ sizeLine ∧ onO (atI z.cps.toList i) fun c => P (.dat (.str ⟨#[c]⟩))
  | _, _ => False
def fIx : F2 := fun x y P => fIxD P x.d y.d
theorem atI_map {α β : Type} (g : α → β) (l : List α) (i : Int) : atI (l.map g) i = (atI l i).map g := by
  unfold atI
  rw [List.length_map]
  cases ixN l.length i with
  | none => rfl
  | some j => exact List.getElem?_map
theorem rel_ix {K : PySem.W.Frag} : RelR K (rIx K) fIx := by
  intro B H x y vx vy P Q k rx ry h a
  unfold fIx fIxD at h
  split at h
  · rename_i l i e1 e2
    obtain ⟨d, hd, h⟩ := onO_elim h
    obtain ⟨p, vs, rfl, hb, hp, rl⟩ := rv_tup k rx e1
    obtain ⟨v, hv, rv⟩ := atI_rep rl hd
    exact .inr (.inl ⟨p, vs, i, v, rfl, rv_int ry e2, hp, hv, a.dat k rv h⟩)
  · rename_i l i e1 e2
    obtain ⟨d, hd, h⟩ := onO_elim h
    obtain ⟨p, vs, rfl, hp, rl⟩ := rv_lst k rx e1
    obtain ⟨v, hv, rv⟩ := atI_rep rl hd
    exact .inl ⟨p, vs, i, v, rfl, rv_int ry e2, .inl (.inl hp), hv, a.dat k rv h⟩
  · rename_i l i e1 e2
    obtain ⟨n, hn, h⟩ := onO_elim h
    obtain ⟨p, rfl, hp⟩ := rv_scr k rx e1
    exact .inl ⟨p, _, i, .int n, rfl, rv_int ry e2, hp, by rw [atI_map, hn]; rfl, a.dat k (.int n) h⟩
  · rename_i z i e1 e2
    obtain ⟨hz, h⟩ := h
    obtain ⟨c, hc, h⟩ := onO_elim h
    exact .inr (.inr ⟨z, i, c, rv_str rx e1, rv_int ry e2, hz, hc, a.dat k (.str _) h⟩)
  · exact h.elim
theorem q_sub1 {a b : Expr} {pos : Pos} {da db : DE} {fa fb : Bool} (ha : PE X a (L X.K W fa da)) (hb : PE X b (L X.K W fb db)) (hs : PlainIx b := by exact fun _ _ => rfl) : PE X (.Subscript a b pos) (L X.K W true (dOp fIx da db)) := q_ix ix_seq rel_ix ha hb hs
/-! ### slices -/
abbrev DO := DX → DEnv → (Option Int → Prop) → Prop
def LO (K : PySem.W.Frag) (W : WX) (dt : DO) : TO := fun s H Q => ∃ B r xc P, Kp B H ∧ EnvRep K B H s r ∧ dt xc r P ∧
  (∀ cls d e H' B', Step B H B' H' → ExcRep K B' cls d e → xc e r → W cls d s H') ∧
  ∀ b H' B', Step B H B' H' → P b → Q b H'
def dNo : DO := fun _ _ P => P none
def asI (P : Int → Prop) : D → Prop
  | .int i => P i
  | _ => False
theorem asI_elim {P : Int → Prop} {d : D} (h : asI P d) : ∃ b, d = .int b ∧ P b := by
  cases d <;> first | exact ⟨_, rfl, h⟩ | exact h.elim
def asS (P : Str → Prop) : D → Prop
  | .str i => P i
  | _ => False
theorem asS_elim {P : Str → Prop} {d : D} (h : asS P d) : ∃ b, d = .str b ∧ P b := by
  cases d <;> first | exact ⟨_, rfl, h⟩ | exact h.elim
def dPart (de : DE) : DO := fun xc r P => de xc r fun x => asI (fun i => P (some i)) x.d
theorem imO {e : Option Expr} {t u : TO} (h : PO X e t) (f : ∀ s H Q, u s H Q → t s H Q) : PO X e u := ⟨fun pins s r H Q I q => h.run pins s r H Q I (f _ _ _ q)⟩
theorem qo_none : PO X none (LO X.K W dNo) := imO po_none fun s H Q ⟨B, r, xc, P, k, en, h, hx, hq⟩ => hq none H B (.refl k) h
theorem qo_some {e : Expr} {de : DE} {f : Bool} (h : PE X e (L X.K W f de)) : PO X (some e) (LO X.K W (dPart de)) := by
  refine imO (po_some h) fun s H Q ⟨B, r, xc, P, k, en, h, hx, hq⟩ => ⟨B, r, xc, _, k, en, h, hx, fun v x H1 B1 z rv _ q => ?_⟩
  obtain ⟨i, e, q⟩ := asI_elim q
  exact ⟨i, rv_int rv e, hq _ H1 B1 z q⟩
def cutD (l : List D) (lo hi : Option Int) : List D := (l.drop (HT.sIx l.length 0 lo)).take (HT.sIx l.length l.length hi - HT.sIx l.length 0 lo)
theorem cut_rep {K : PySem.W.Frag} {B : Hp} {vs : List V} {ds : List D} (r : RepL K B vs ds) (lo hi : Option Int) : RepL K B (cutV vs lo hi) (cutD ds lo hi) := by
  unfold cutV cutD
  rw [r.length]
  exact (r.drop _).take _
def rSlU (K : PySem.W.Frag) : V → Option Int → Option Int → Hp → VK → Prop := fun x lo hi H Q => rSlL K x lo hi H Q ∨ (rSlA K x lo hi H Q ∨ rSlS x lo hi H Q)
theorem sl_u : SlR X (rSlU X.K) := by
  intro pins s t H x v vl vu lo hi sl Q I rx hs pl pu h
  rcases h with h | h | h
  · exact sl_list pins s t H x v vl vu lo hi sl Q I rx hs pl pu h
  · exact sl_tupA pins s t H x v vl vu lo hi sl Q I rx hs pl pu h
  · exact sl_str pins s t H x v vl vu lo hi sl Q I rx hs pl pu h
def fSlD (lo hi : Option Int) (P : Val → Prop) : D → Prop
  | .lst l => P (.tmp (.lst (cutD l lo hi)))
  | .tup l => P (.dat (.tup (cutD l lo hi)))
  | .str z => z.length ≤ sizeLine ∧ P (.dat (.str (cutS z lo hi)))
  | _ => False
def fSl (x : Val) (lo hi : Option Int) (P : Val → Prop) : Prop := fSlD lo hi P x.d
def dSl (de : DE) (dl dh : DO) : DE := fun xc r P => de xc r fun x => dl xc r fun lo => dh xc r fun hi => fSl x lo hi P
theorem q_slice {e : Expr} {lo hi : Option Expr} {p2 pos : Pos} {de : DE} {dl dh : DO} {f : Bool} (he : PE X e (L X.K W f de)) (hl : PO X lo (LO X.K W dl)) (hh : PO X hi (LO X.K W dh)) : PE X (.Subscript e (.Slice lo hi none p2) pos) (L X.K W true (dSl de dl dh)) := by
  refine imE (pe_slice sl_u he hl hh) fun s H Q ⟨B, r, xc, P, k, en, h, hx, hq⟩ => ⟨B, r, xc, _, k, en, h, hx, fun x vx H1 B1 z1 rx _ q1 => ?_⟩
  refine ⟨B1, r, xc, _, z1.sub, en.step z1, q1, fun cls d e H' B' st => hx cls d e H' B' (z1.trans st), fun l H2 B2 z2 q2 => ?_⟩
  have z12 := z1.trans z2
  refine ⟨B2, r, xc, _, z2.sub, en.step z12, q2, fun cls d e H' B' st => hx cls d e H' B' (z12.trans st), fun u H3 B3 z3 q3 => ?_⟩
  have z := z12.trans z3
  have rx3 := (rx.step z2).step z3
  unfold fSl fSlD at q3
  split at q3
  · rename_i es e1
    obtain ⟨p, vs, rfl, hp, rl⟩ := rv_lst z3.sub rx3 e1
    exact .inl ⟨p, vs, rfl, .inl (.inl hp), fun q n => hq _ (.tmp (.lst (cutD es l u))) _ B3 (z.trans (.tmp z3.sub n)) ⟨q, rfl, z3.sub.none n, _, upd_same, cut_rep rl l u⟩ (fun _ p c e _ => by cases e; exact z.free n) q3⟩
  · rename_i es e1
    obtain ⟨p, vs, rfl, hb, hp, rl⟩ := rv_tup z3.sub rx3 e1
    have len := rl.length
    refine .inr (.inl ⟨p, vs, rfl, hp, fun w => ?_, fun w q n => ?_⟩)
    · have ec : cutD es l u = es := by
        unfold cutD
        rw [← len, w.1, w.2, List.drop_zero, Nat.sub_zero, len, List.take_length]
      rw [ec] at q3
      exact hq _ (.dat (.tup es)) H3 B3 z (.tup hb rl) (fun _ => Fr.dat) q3
    · exact hq _ (.dat (.tup (cutD es l u))) _ _ (z.trans (.new z3.sub n)) (.tup (.inl (.inl upd_same)) ((cut_rep rl l u).mono (Kp.new (z3.sub.none n)))) (fun _ => Fr.dat) q3
  · rename_i y e1
    exact .inr (.inr ⟨y, rv_str rx3 e1, q3.1, hq _ (.dat (.str _)) H3 B3 z (.str _) (fun _ => Fr.dat) q3.2⟩)
  · exact q3.elim
/-- y[::-1] of a text -/
def revS (z : Str) : Str := ⟨z.cps.toList.reverse.toArray⟩
theorem revS_length (z : Str) : (revS z).length = z.length := by
  show z.cps.toList.reverse.toArray.size = z.cps.size
  rw [List.size_toArray, List.length_reverse, Array.length_toList]
def dRevS (de : DE) : DE := fun xc r P => de xc r fun x => asS (fun z => z.length ≤ sizeLine ∧ P (.dat (.str (revS z)))) x.d
theorem rev_made (z : Str) : (⟨((Builtin.Str.strSliceIndices none none (-1) z.length).filterMap (z.cps[·]?)).toArray⟩ : Str) = revS z := by
  have h := PyProof.Rows.picked_rev z.length
  rw [h]
  refine congrArg Str.mk (congrArg List.toArray ?_)
  rw [PyProof.Rows.filterMap_get, List.map_map]
  · refine List.ext_getElem? fun i => ?_
    rw [List.getElem?_map]
    by_cases hi : i < z.length
    · have hs : z.cps.toList.length = z.length := Array.length_toList
      rw [List.getElem?_range hi, List.getElem?_reverse (by rw [hs]; exact hi), hs]
      have h2 : z.length - 1 - i < z.cps.size := by have : z.cps.size = z.length := rfl; omega
      rw [Array.getElem?_toList, Array.getElem?_eq_getElem h2]
      show some (z.cps.getD (z.length - 1 - i) 0) = _
      rw [Array.getD, dif_pos h2]
      rfl
    · rw [List.getElem?_eq_none (by rw [List.length_range]; omega), List.getElem?_eq_none (by rw [List.length_reverse, Array.length_toList]; have : z.cps.size = z.length := rfl; omega)]
      rfl
  · intro i hi
    obtain ⟨k, hk, rfl⟩ := List.mem_map.mp hi
    have hk' : k < z.length := List.mem_range.mp hk
    show z.length - 1 - k < z.cps.size
    have : z.cps.size = z.length := rfl
    omega
theorem q_revS {e : Expr} {k0 : Nat} {p1 p2 p3 pos : Pos} {de : DE} {f : Bool} (he : PE X e (L X.K W f de)) : PE X (.Subscript e (.Slice none none (some (.UnaryOp .USub (.Constant (.int 1) k0 p1) p2)) p3) pos) (L X.K W true (dRevS de)) := by
  have main : PE X (.Subscript e (.Slice none none (some (.UnaryOp .USub (.Constant (.int 1) k0 p1) p2)) p3) pos) (fun s H Q => L X.K W f de s H fun x H1 => ∃ z, x = .str z ∧ z.length ≤ sizeLine ∧ Q (.str (revS z)) H1) := by
    refine ⟨fun pins s t H Q I h => ?_⟩
    refine Subscript_ (thn (he.run pins s t H _ I h) fun v s1 ⟨x, H1, I1, r1, z, ex, hz, q⟩ => ?_)
    subst ex
    obtain ⟨tk, rfl⟩ := r1
    have hst : PO X (some (.UnaryOp .USub (.Constant (.int 1) k0 p1) p2)) (tPart (tUn (rU fun i => .int (-i)) (tC (.int 1)))) := po_some (pe_un un_neg pe_int)
    refine wpAny_Slice (thn (po_none.run pins s1 t H1 (fun o H2 => o = none ∧ H2 = H1) I1 ⟨rfl, rfl⟩) fun vl s2 ⟨l, H2, I2, pl, el, e2⟩ => ?_)
    subst el e2
    refine thn (po_none.run pins s2 t H2 (fun o H3 => o = none ∧ H3 = H2) I2 ⟨rfl, rfl⟩) fun vu s3 ⟨u, H3, I3, pu, eu, e3⟩ => ?_
    subst eu e3
    refine thn (hst.run pins s3 t H3 (fun o H4 => o = some (-1) ∧ H4 = H3) I3 ⟨1, rfl, -1, rfl, rfl, rfl⟩) fun vs s4 ⟨o, H4, I4, ps, eo, e4⟩ => ?_
    subst eo e4
    have I5 : Inv X pins t H4 { s4 with heap := s4.heap.push { cls := .type "slice", data := .fields #[vl, vu, vs] } } := I4.kept (t' := s4.toks) fun b ob q => Heap.get?_push_of_some _ q
    show wpAny (model X.prog X.w) X.A (subscriptTail e (.Slice none none (some (.UnaryOp .USub (.Constant (.int 1) k0 p1) p2)) p3) (.str z tk) (.ref s4.heap.objs.size)) (EP X pins t Q) X.xe { s4 with heap := s4.heap.push { cls := .type "slice", data := .fields #[vl, vu, vs] } }
    refine tail_any (ops := [.ref s4.heap.objs.size, .str z tk]) (typeIs_str _ _ _) (F.slot_str_getitem.lookup) ?_ (by with_unfolding_all rfl)
    obtain ⟨l, rfl, e1⟩ := IsPart.raw pl
    obtain ⟨u, rfl, e2⟩ := IsPart.raw pu
    obtain ⟨w, rfl, e3⟩ := IsPart.raw ps
    cases l with
    | some _ => cases e1
    | none =>
      cases u with
      | some _ => cases e2
      | none =>
        cases w with
        | none => cases e3
        | some w =>
          obtain ⟨wi, wt⟩ := w
          cases (show some wi = some (-1) from e3)
          refine wpAny_getItem_str_slice (l := none) (u := none) (st := some (-1, wt)) ⟨_, Heap.get?_push_size _ rfl, rfl, rfl⟩ rfl ?_
          show Made.post (if (((-1 : Int) == 1) && ((Builtin.Str.strSliceIndices none none (-1) z.length).length == z.length)) = true then Made.val (.str z tk)
            else Made.str ⟨((Builtin.Str.strSliceIndices none none (-1) z.length).filterMap (z.cps[·]?)).toArray⟩) (EP X pins t Q) _
          rw [if_neg (by show ¬ ((false && _) = true); rw [Bool.false_and]; exact Bool.false_ne_true), rev_made]
          exact ⟨by rw [revS_length]; exact hz, .str (revS z), H4, I5.tok _, ⟨_, rfl⟩, q⟩
  refine imE main fun s H Q ⟨B, r, xc, P, k, en, h, hx, hq⟩ => ⟨B, r, xc, _, k, en, h, hx, fun x vx H1 B1 z rx _ q => ?_⟩
  obtain ⟨y, e, q⟩ := asS_elim q
  exact ⟨y, rv_str rx e, q.1, hq _ (.dat (.str _)) H1 B1 z (.str _) (fun _ => Fr.dat) q.2⟩
/-! ### calls of built-ins -/
/-- what a built-in of one, of two arguments asks -/
def RelC1 (K : PySem.W.Frag) (r : List V → Hp → VK → Prop) (f : F1) : Prop := RelU K (fun x H Q => r [x] H Q) f
def RelC2 (K : PySem.W.Frag) (r : List V → Hp → VK → Prop) (f : F2) : Prop := RelR K (fun x y H Q => r [x, y] H Q) f
section
variable {x : Str} {p pos : Pos} {a b : Expr} {da db : DE} {fa fb : Bool} {id T : String} {r : List V → Hp → VK → Prop}
theorem q_b1 {f : F1} (hr : RelC1 X.K r f) (hc : CallR X (.builtin id) r) (hg : Gl X x) (hm : X.mg x = none) (hv : bootBuiltins x = some (.builtin id)) (ha : PE X a (L X.K W fa da)) (hn : x ≠ "__name__" := by decide) (hdb : (x == ("__debug__" : Str)) = false := by decide)
    (he : starEach [a] X.env = (false, eval a X.env) :: starEach [] X.env := by rfl) (hpl : (backTo pos (starEach [] X.env)).any (·.1) = false := by rfl) : PE X (.Call (.Name x p) [a] [] pos) (L X.K W true (dUn f da)) :=
  imE (pe_callB hc hg hm hv (pa_cons ha pa_nil he) hn hdb he hpl) (l_un hr)
theorem q_t1 {f : F1} (hr : RelC1 X.K r f) (hc : CallR X (.type T) r) (hg : Gl X x) (hm : X.mg x = none) (hv : bootBuiltins x = some (.type T)) (ha : PE X a (L X.K W fa da)) (hn : x ≠ "__name__" := by decide) (hdb : (x == ("__debug__" : Str)) = false := by decide)
    (he : starEach [a] X.env = (false, eval a X.env) :: starEach [] X.env := by rfl) (hpl : (backTo pos (starEach [] X.env)).any (·.1) = false := by rfl) : PE X (.Call (.Name x p) [a] [] pos) (L X.K W true (dUn f da)) :=
  imE (pe_callTy hc hg hm hv (pa_cons ha pa_nil he) hn hdb he hpl) (l_un hr)
theorem q_b2 {f : F2} (hr : RelC2 X.K r f) (hc : CallR X (.builtin id) r) (hg : Gl X x) (hm : X.mg x = none) (hv : bootBuiltins x = some (.builtin id)) (ha : PE X a (L X.K W fa da)) (hb : PE X b (L X.K W fb db)) (hn : x ≠ "__name__" := by decide) (hdb : (x == ("__debug__" : Str)) = false := by decide)
    (he : starEach [a, b] X.env = (false, eval a X.env) :: starEach [b] X.env := by rfl) (he2 : starEach [b] X.env = (false, eval b X.env) :: starEach [] X.env := by rfl) (hpl : (backTo pos (starEach [b] X.env)).any (·.1) = false := by rfl) : PE X (.Call (.Name x p) [a, b] [] pos) (L X.K W true (dOp f da db)) :=
  imE (pe_callB hc hg hm hv (pa_cons ha (pa_cons hb pa_nil he2) he) hn hdb he hpl) (l_op hr)
end
/-- len -/
def fLenD (P : Val → Prop) : D → Prop
  | .str z => z.length ≤ sizeLine ∧ P (.dat (.int z.length))
  | .tup l => P (.dat (.int l.length))
  | .lst l => P (.dat (.int l.length))
  | .scr l => P (.dat (.int l.length))
  | _ => False
def fLen : F1 := fun x P => fLenD P x.d
theorem rel_len : RelC1 X.K (fun xs H Q => ∃ x n, xs = [x] ∧ LenV X.K x H n ∧ Q (.int n) H) fLen := by
  intro B H x vx P Q k rx h a
  unfold fLen fLenD at h
  split at h
  · rename_i z e
    rw [rv_str rx e]
    exact ⟨_, _, rfl, ⟨h.1, rfl⟩, a.dat k (.int _) h.2⟩
  · rename_i l e
    obtain ⟨p, vs, rfl, _, hp, rl⟩ := rv_tup k rx e
    exact ⟨_, _, rfl, .inr ⟨vs, hp, rfl⟩, by rw [rl.length]; exact a.dat k (.int _) h⟩
  · rename_i l e
    obtain ⟨p, vs, rfl, hp, rl⟩ := rv_lst k rx e
    exact ⟨_, _, rfl, .inl ⟨vs, .inl (.inl hp), rfl⟩, by rw [rl.length]; exact a.dat k (.int _) h⟩
  · rename_i l e
    obtain ⟨p, rfl, hp⟩ := rv_scr k rx e
    exact ⟨_, _, rfl, .inl ⟨_, hp, rfl⟩, by rw [List.length_map]; exact a.dat k (.int _) h⟩
  · exact h.elim
def fAbsD (P : Val → Prop) : D → Prop
  | .int i => P (.dat (.int (if i < 0 then -i else i)))
  | _ => False
def fAbs : F1 := fun x P => fAbsD P x.d
theorem rel_abs {K : PySem.W.Frag} : RelC1 K (fun xs H Q => ∃ i, xs = [.int i] ∧ Q (.int (if i < 0 then -i else i)) H) fAbs := by
  intro B H x vx P Q k rx h a
  unfold fAbs fAbsD at h
  split at h
  · rename_i i e
    rw [rv_int rx e]
    exact ⟨i, rfl, a.dat k (.int _) h⟩
  · exact h.elim
def fIntD (P : Val → Prop) : D → Prop
  | .int i => P (.dat (.int i))
  | .bl b => P (.dat (.int (if b then 1 else 0)))
  | _ => False
def fInt : F1 := fun x P => fIntD P x.d
theorem rel_int {K : PySem.W.Frag} : RelC1 K (fun xs H Q => (∃ i, xs = [.int i] ∧ Q (.int i) H) ∨ ∃ k, xs = [.bl k] ∧ Q (.int (if k then 1 else 0)) H) fInt := by
  intro B H x vx P Q k rx h a
  unfold fInt fIntD at h
  split at h
  · rename_i i e
    rw [rv_int rx e]
    exact .inl ⟨i, rfl, a.dat k (.int _) h⟩
  · rename_i i e
    rw [rv_bl rx e]
    exact .inr ⟨i, rfl, a.dat k (.int _) h⟩
  · exact h.elim
def fMax : F2 := fI0 fun i j => .int (if j > i then j else i)
def fMin : F2 := fI0 fun i j => .int (if j < i then j else i)
theorem rel_max {K : PySem.W.Frag} : RelC2 K (fun xs H Q => ∃ i j, xs = [.int i, .int j] ∧ Q (.int (if j > i then j else i)) H) fMax := by
  intro B H x y vx vy P Q k rx ry h a
  unfold fMax fI0 fI0D at h
  split at h
  · rename_i i j e1 e2
    rw [rv_int rx e1, rv_int ry e2]
    exact ⟨i, j, rfl, a.dat k (.int _) h⟩
  · exact h.elim
theorem rel_min {K : PySem.W.Frag} : RelC2 K (fun xs H Q => ∃ i j, xs = [.int i, .int j] ∧ Q (.int (if j < i then j else i)) H) fMin := by
  intro B H x y vx vy P Q k rx ry h a
  unfold fMin fI0 fI0D at h
  split at h
  · rename_i i j e1 e2
    rw [rv_int rx e1, rv_int ry e2]
    exact ⟨i, j, rfl, a.dat k (.int _) h⟩
  · exact h.elim
/-- list(x), tuple(x) -/
def fListD (P : Val → Prop) : D → Prop
  | .lst l => P (.tmp (.lst l))
  | .tup l => P (.tmp (.lst l))
  | .scr l => P (.tmp (.lst (l.map D.int)))
  | _ => False
def fList : F1 := fun x P => fListD P x.d
theorem rel_list : RelC1 X.K (fun xs H Q => ∃ p ys, xs = [.ref p] ∧ (SqL X.K H p ys ∨ SqT X.K H p ys) ∧ ∀ l, H l = none → Q (.ref l) (upd H l (.lst ys))) fList := by
  intro B H x vx P Q k rx h a
  unfold fList fListD at h
  split at h
  · rename_i l e
    obtain ⟨p, vs, rfl, hp, rl⟩ := rv_lst k rx e
    exact ⟨p, vs, rfl, .inl (.inl (.inl hp)), fun q n => a.newL k rl h n⟩
  · rename_i l e
    obtain ⟨p, vs, rfl, _, hp, rl⟩ := rv_tup k rx e
    exact ⟨p, vs, rfl, .inr hp, fun q n => a.newL k rl h n⟩
  · rename_i l e
    obtain ⟨p, rfl, hp⟩ := rv_scr k rx e
    exact ⟨p, _, rfl, .inl hp, fun q n => a.newL k (RepL.ints l) h n⟩
  · exact h.elim
def fTupleD (P : Val → Prop) : D → Prop
  | .lst l => P (.dat (.tup l))
  | .tup l => P (.dat (.tup l))
  | .scr l => P (.dat (.tup (l.map D.int)))
  | _ => False
def fTuple : F1 := fun x P => fTupleD P x.d
theorem rel_tuple : RelC1 X.K (fun xs H Q => ∃ p ys, xs = [.ref p] ∧ ((SqL X.K H p ys ∧ ∀ l, H l = none → Q (.ref l) (upd H l (.tup ys))) ∨ (SqT X.K H p ys ∧ Q (.ref p) H))) fTuple := by
  intro B H x vx P Q k rx h a
  unfold fTuple fTupleD at h
  split at h
  · rename_i l e
    obtain ⟨p, vs, rfl, hp, rl⟩ := rv_lst k rx e
    exact ⟨p, vs, rfl, .inl ⟨.inl (.inl hp), fun q n => a.newT k rl h n⟩⟩
  · rename_i l e
    obtain ⟨p, vs, rfl, hb, hp, rl⟩ := rv_tup k rx e
    exact ⟨p, vs, rfl, .inr ⟨hp, a.dat k (.tup hb rl) h⟩⟩
  · rename_i l e
    obtain ⟨p, rfl, hp⟩ := rv_scr k rx e
    exact ⟨p, _, rfl, .inl ⟨hp, fun q n => a.newT k (RepL.ints l) h n⟩⟩
  · exact h.elim
/-- all, any of a list of truths -/
def blsOf : List D → Option (List Bool)
  | [] => some []
  | .bl b :: r => (blsOf r).map (b :: ·)
  | _ => none
theorem bls_rep {K : PySem.W.Frag} {B : Hp} : ∀ {vs : List V} {ds : List D} {bs : List Bool}, RepL K B vs ds → blsOf ds = some bs → vs = bs.map V.bl
  | _, _, _, .nil, e => by
    have := Option.some.inj e
    subst this
    rfl
  | _, _, bs, .cons h r, e => by
    cases h with
    | bl b =>
      unfold blsOf at e
      cases q : blsOf _ with
      | none => rw [q] at e; cases e
      | some cs =>
        rw [q] at e
        have := Option.some.inj e
        subst this
        rw [bls_rep r q]
        rfl
    | _ => cases e
theorem blsOf_map {α : Type} (f : α → Bool) : ∀ l : List α, blsOf (l.map fun a => D.bl (f a)) = some (l.map f)
  | [] => rfl
  | a :: r => by
    show (blsOf (r.map fun a => D.bl (f a))).map (f a :: ·) = _
    rw [blsOf_map f r]
    rfl
def fAllD (P : Val → Prop) : D → Prop
  | .lst l => onO (blsOf l) fun bs => P (.dat (.bl (bs.all id)))
  | _ => False
def fAll : F1 := fun x P => fAllD P x.d
def fAnyD (P : Val → Prop) : D → Prop
  | .lst l => onO (blsOf l) fun bs => P (.dat (.bl (bs.any id)))
  | _ => False
def fAny : F1 := fun x P => fAnyD P x.d
theorem rel_all : RelC1 X.K (rAll X.K) fAll := by
  intro B H x vx P Q k rx h a
  unfold fAll fAllD at h
  split at h
  · rename_i l e
    obtain ⟨bs, hb, h⟩ := onO_elim h
    obtain ⟨p, vs, rfl, hp, rl⟩ := rv_lst k rx e
    have ev := bls_rep rl hb
    subst ev
    exact ⟨p, bs, rfl, .inl (.inl hp), a.dat k (.bl _) h⟩
  · exact h.elim
theorem rel_any : RelC1 X.K (rAny X.K) fAny := by
  intro B H x vx P Q k rx h a
  unfold fAny fAnyD at h
  split at h
  · rename_i l e
    obtain ⟨bs, hb, h⟩ := onO_elim h
    obtain ⟨p, vs, rfl, hp, rl⟩ := rv_lst k rx e
    have ev := bls_rep rl hb
    subst ev
    exact ⟨p, bs, rfl, .inl (.inl hp), a.dat k (.bl _) h⟩
  · exact h.elim
/-- isinstance(x, T) -/
inductive Ty6 where
  | str | int | bool | tuple | list | dict
def Ty6.name : Ty6 → String
  | .str => "str" | .int => "int" | .bool => "bool" | .tuple => "tuple" | .list => "list" | .dict => "dict"
def D.isi : Ty6 → D → Bool
  | .str, .str _ => true
  | .int, .int _ => true
  | .int, .bl _ => true
  | .bool, .bl _ => true
  | .tuple, .tup _ => true
  | .list, .lst _ => true
  | .list, .scr _ => true
  | .dict, .dic _ => true
  | .dict, .draw => true
  | _, _ => false
/-- data of which isinstance may be asked -/
def D.plain : D → Bool
  | .ty _ => false
  | .scr _ => false
  | .obj _ => false
  | .exc _ _ => false
  | .drawl => false
  | .clo _ _ => false
  | _ => true
def fIsi (t : Ty6) : F1 := fun x P => x.d.plain = true ∧ P (.dat (.bl (x.d.isi t)))
theorem kit_all (t : Ty6) : kitB "NoneType" t.name = some false ∧ kitB "bool" t.name = some (D.isi t (.bl true)) ∧ kitB "int" t.name = some (D.isi t (.int 0)) ∧ kitB "str" t.name = some (D.isi t (.str ⟨#[]⟩)) ∧ kitB "tuple" t.name = some (D.isi t (.tup [])) ∧
    kitB "list" t.name = some (D.isi t (.lst [])) ∧ kitB "dict" t.name = some (D.isi t (.dic [])) := by
  cases t <;> exact ⟨by decide +kernel, by decide +kernel, by decide +kernel, by decide +kernel, by decide +kernel, by decide +kernel, by decide +kernel⟩
theorem kit_rep {K : PySem.W.Frag} {B H : Hp} {v : V} {x : Val} (k : Kp B H) (r : RepV K B H v x) (o : x.d.plain = true) (tk : ∀ a vs, v = .ref a → SqT K H a vs → TyX K H v (.type "tuple")) (t : Ty6) :
    ∃ n : String, TyX K H v (.type n) ∧ kitB n t.name = some (x.d.isi t) := by
  obtain ⟨k0, k1, k2, k3, k4, k5, k6⟩ := kit_all t
  cases x with
  | tmp c =>
    obtain ⟨p, rfl, n, w⟩ := r
    cases c with
    | lst ds =>
      obtain ⟨vs, h, _⟩ := w
      exact ⟨"list", .base (.lst h), by rw [k5]; cases t <;> rfl⟩
    | dic ds =>
      obtain ⟨vs, h, _⟩ := w
      exact ⟨"dict", .base (.dK h), by rw [k6]; cases t <;> rfl⟩
  | dat d =>
    cases r with
    | non => exact ⟨"NoneType", .base .non, by rw [k0]; cases t <;> rfl⟩
    | bl b => exact ⟨"bool", .base (.bl b), by rw [k1]; cases t <;> rfl⟩
    | int i => exact ⟨"int", .base (.int i), by rw [k2]; cases t <;> rfl⟩
    | str x => exact ⟨"str", .base (.str x), by rw [k3]; cases t <;> rfl⟩
    | ty n => cases o
    | scr h => cases o
    | obj a => cases o
    | exc hc h hp => cases o
    | clo h => cases o
    | drawl h => cases o
    | tup h r => exact ⟨"tuple", tk _ _ rfl (kp_t k h), by rw [k4]; cases t <;> rfl⟩
    | lst h r => exact ⟨"list", .base (.lst ((k _ _ h).1 DrawO.lst)), by rw [k5]; cases t <;> rfl⟩
    | dic h n r => exact ⟨"dict", .base (.dK ((k _ _ h).1 n)), by rw [k6]; cases t <;> rfl⟩
    | draw h d =>
      obtain ⟨u, hu, _, _, _, rfl, _⟩ := k.draw h d
      exact ⟨"dict", .base (.dK hu), by rw [k6]; cases t <;> rfl⟩
theorem tup_ty {K : PySem.W.Frag} {H : Hp} : ∀ a vs, SqT K H a vs → TyX K H (.ref a) (.type "tuple") := fun a vs h => by
  rcases h with (h | ⟨o, h⟩) | ⟨o, its, n, h1, h2, _⟩
  · exact .base (.tup h)
  · exact .fTuple h
  · exact .kTuple h1 h2
theorem q_isi (t : Ty6) {p p2 pos : Pos} {a : Expr} {y : Str} {da : DE} {fa : Bool} (hg : Gl X "isinstance") (hm : X.mg "isinstance" = none) (hg2 : Gl X y) (hm2 : X.mg y = none) (hv2 : bootBuiltins y = some (.type t.name)) (ha : PE X a (L X.K W fa da)) (hn : y ≠ "__name__" := by decide) (hd : (y == ("__debug__" : Str)) = false := by decide)
    (he : starEach [a, .Name y p2] X.env = (false, eval a X.env) :: starEach [.Name y p2] X.env := by rfl) (he2 : starEach [.Name y p2] X.env = (false, eval (.Name y p2) X.env) :: starEach [] X.env := by rfl) (hpl : (backTo pos (starEach [.Name y p2] X.env)).any (·.1) = false := by rfl) :
    PE X (.Call (.Name "isinstance" p) [a, .Name y p2] [] pos) (L X.K W true (dUn (fIsi t) da)) := by
  refine imE (pe_callB call_isi hg hm (by decide +kernel) (pa_cons ha (pa_cons (pe_bltn (v := .ty t.name) hg2 hm2 hv2 rfl hn hd) pa_nil he2) he) (by decide) (by decide) he hpl) fun s H Q ⟨B, r, xc, P, k, en, h, hx, hq⟩ => ⟨B, r, xc, _, k, en, h, hx, fun x vx H1 B1 z rx _ q => ?_⟩
  obtain ⟨o, q⟩ := q
  obtain ⟨n, ty, e⟩ := kit_rep z.sub rx o (fun a vs e h => by subst e; exact tup_ty a vs h) t
  exact ⟨x, .ty t.name, .type n, .type t.name, _, rfl, .ty _, ty, kit_ty e, hq _ (.dat (.bl _)) H1 B1 z (.bl _) (fun _ => Fr.dat) q⟩
/-! ### methods of texts -/
def RelM (K : PySem.W.Frag) (r : V → List V → Hp → VK → Prop) (f : F2) : Prop := RelR K (fun x y H Q => r x [y] H Q) f
/-- a method of a text with one argument -/
def dM1 (f : F2) (da db : DE) : DE := fun xc r P => da xc r fun x => asS (fun _ => db xc r fun y => f x y P) x.d
theorem l_m1 {rr : V → List V → Hp → VK → Prop} {f : F2} {da db : DE} {fa fb : Bool} (hr : RelM X.K rr f) (s : L2.St) (H : Hp) (Q : VK) (h : L X.K W true (dM1 f da db) s H Q) : tM1 rr (L X.K W fa da) (L X.K W fb db) s H Q := by
  obtain ⟨B, r, xc, P, k, en, h, hx, hq⟩ := h
  refine ⟨B, r, xc, _, k, en, h, hx, fun x vx H1 B1 s1 rx _ h1 => ?_⟩
  obtain ⟨z, e, h1⟩ := asS_elim h1
  · refine ⟨⟨z, rv_str rx e⟩, B1, r, xc, _, s1.sub, en.step s1, h1, fun cls d e H' B' st => hx cls d e H' B' (s1.trans st), fun y vy H2 B2 s2 ry _ h2 => ?_⟩
    exact hr B2 H2 x y vx vy P Q s2.sub (rx.step s2) ry h2 fun v z H3 B3 s3 rv fr p => hq v z H3 B3 ((s1.trans s2).trans s3) rv (fun _ => (fr.back s2).back s1) p
def fSplitD (P : Val → Prop) : D → D → Prop
  | .str a, .str b => ((b.length == 0) = false ∧ a.length + 2 ≤ sizeLine) ∧ P (.tmp (.lst ((Txt.split a b).map D.str)))
  | _, _ => False
def fSplit : F2 := fun x y P => fSplitD P x.d y.d
theorem q_split {o e : Expr} {apos pos : Pos} {da db : DE} {fa fb : Bool} (ho : PE X o (L X.K W fa da)) (he : PE X e (L X.K W fb db)) (hs : starEach [e] X.env = [(false, eval e X.env)] := by rfl) (hbase : attributeBase o "split" X.env (eval o X.env) = eval o X.env := by rfl) (hline : (apos.endLine == pos.line) = true := by rfl) :
    PE X (.Call (.Attribute o "split" apos) [e] [] pos) (L X.K W true (dM1 fSplit da db)) := imE (pe_split ho he hs hbase hline) (l_m1 (by
  intro B H x y vx vy P Q k rx ry h a
  unfold fSplit fSplitD at h
  split at h
  · rename_i u v e1 e2
    rw [rv_str rx e1, rv_str ry e2]
    exact ⟨u, v, rfl, rfl, h.1.1, h.1.2, fun p n => a.newL k (RepL.strs _) h.2 n⟩
  · exact h.elim))
def strsOf : List D → Option (List Str)
  | [] => some []
  | .str b :: r => (strsOf r).map (b :: ·)
  | _ => none
theorem strs_rep {K : PySem.W.Frag} {B : Hp} : ∀ {vs : List V} {ds : List D} {bs : List Str}, RepL K B vs ds → strsOf ds = some bs → vs = bs.map V.str
  | _, _, _, .nil, e => by
    have := Option.some.inj e
    subst this
    rfl
  | _, _, bs, .cons h r, e => by
    cases h with
    | str b =>
      unfold strsOf at e
      cases q : strsOf _ with
      | none => rw [q] at e; cases e
      | some cs =>
        rw [q] at e
        have := Option.some.inj e
        subst this
        rw [strs_rep r q]
        rfl
    | _ => cases e
theorem strsOf_map {α : Type} (f : α → Str) : ∀ l : List α, strsOf (l.map fun a => D.str (f a)) = some (l.map f)
  | [] => rfl
  | a :: r => by
    show (strsOf (r.map fun a => D.str (f a))).map (f a :: ·) = _
    rw [strsOf_map f r]
    rfl
def fJoinD (P : Val → Prop) : D → D → Prop
  | .str a, .lst l => onO (strsOf l) fun ys => (ys.map (·.length)).sum + ys.length * a.length ≤ 16777216 ∧ P (.dat (.str (Txt.join a ys)))
  | .str a, .tup l => onO (strsOf l) fun ys => (ys.map (·.length)).sum + ys.length * a.length ≤ 16777216 ∧ P (.dat (.str (Txt.join a ys)))
  | _, _ => False
def fJoin : F2 := fun x y P => fJoinD P x.d y.d
theorem q_join {o e : Expr} {apos pos : Pos} {da db : DE} {fa fb : Bool} (ho : PE X o (L X.K W fa da)) (he : PE X e (L X.K W fb db)) (hs : starEach [e] X.env = [(false, eval e X.env)] := by rfl) (hbase : attributeBase o "join" X.env (eval o X.env) = eval o X.env := by rfl) (hline : (apos.endLine == pos.line) = true := by rfl) :
    PE X (.Call (.Attribute o "join" apos) [e] [] pos) (L X.K W true (dM1 fJoin da db)) := imE (pe_join ho he hs hbase hline) (l_m1 (by
  intro B H x y vx vy P Q k rx ry h a
  unfold fJoin fJoinD at h
  split at h
  · rename_i u l e1 e2
    obtain ⟨ys, hy, h⟩ := onO_elim h
    rw [rv_str rx e1]
    obtain ⟨p, vs, rfl, hp, rl⟩ := rv_lst k ry e2
    have ev := strs_rep rl hy
    subst ev
    exact ⟨u, p, ys, rfl, rfl, .inl (.inl (.inl hp)), h.1, a.dat k (.str _) h.2⟩
  · rename_i u l e1 e2
    obtain ⟨ys, hy, h⟩ := onO_elim h
    rw [rv_str rx e1]
    obtain ⟨p, vs, rfl, _, hp, rl⟩ := rv_tup k ry e2
    have ev := strs_rep rl hy
    subst ev
    exact ⟨u, p, ys, rfl, rfl, .inr hp, h.1, a.dat k (.str _) h.2⟩
  · exact h.elim))
/-! ### dicts -/
def keyD : D → Option Key
  | .int i => some (.inl i)
  | .str x => some (.inr x)
  | _ => none
def putD (kvs : List (Key × D)) (k : Key) (v : D) : List (Key × D) :=
  if (kvs.any fun kv => decide (kv.1 = k)) = true then kvs.map (fun kv => if kv.1 = k then (kv.1, v) else kv) else kvs ++ [(k, v)]
def valD (kvs : List (Key × D)) (k : Key) : Option D := (kvs.find? fun kv => decide (kv.1 = k)).map (·.2)
theorem RepK.any {K : PySem.W.Frag} {B : Hp} {k : Key} : ∀ {vs : List (Key × V)} {ds : List (Key × D)}, RepK K B vs ds → (vs.any fun kv => decide (kv.1 = k)) = (ds.any fun kv => decide (kv.1 = k))
  | _, _, .nil => rfl
  | _, _, .cons h r => by
    rw [List.any_cons, List.any_cons, RepK.any r]
theorem RepK.put {K : PySem.W.Frag} {B : Hp} {k : Key} {v : V} {d : D} (h : Rep K B v d) {vs : List (Key × V)} {ds : List (Key × D)} (r : RepK K B vs ds) : RepK K B (putK vs k v) (putD ds k d) := by
  unfold putK putD
  rw [r.any]
  split
  · skip
    have g : ∀ {vs : List (Key × V)} {ds : List (Key × D)}, RepK K B vs ds → RepK K B (vs.map fun kv => if kv.1 = k then (kv.1, v) else kv) (ds.map fun kv => if kv.1 = k then (kv.1, d) else kv) := by
      intro vs
      induction vs with
      | nil => intro ds r; cases r; exact .nil
      | cons a vs ih =>
        intro ds r
        cases r with
        | @cons k2 v2 _ d2 _ h2 r2 =>
          rw [List.map_cons, List.map_cons]
          by_cases e : k2 = k
          · rw [if_pos (show (k2, v2).1 = k from e), if_pos (show (k2, d2).1 = k from e)]
            exact .cons h (ih r2)
          · rw [if_neg (show ¬ (k2, v2).1 = k from e), if_neg (show ¬ (k2, d2).1 = k from e)]
            exact .cons h2 (ih r2)
    exact g r
  · have g : ∀ {vs : List (Key × V)} {ds : List (Key × D)}, RepK K B vs ds → RepK K B (vs ++ [(k, v)]) (ds ++ [(k, d)]) := by
      intro vs
      induction vs with
      | nil => intro ds r; cases r; exact .cons h .nil
      | cons a vs ih =>
        intro ds r
        cases r with
        | cons h2 r2 => exact .cons h2 (ih r2)
    exact g r
theorem RepK.val {K : PySem.W.Frag} {B : Hp} {k : Key} {d : D} : ∀ {vs : List (Key × V)} {ds : List (Key × D)}, RepK K B vs ds → valD ds k = some d → ∃ v, valV vs k = some v ∧ Rep K B v d
  | _, _, .nil, e => by cases e
  | (k2, v2) :: vs, (_, d2) :: ds, .cons h r, e => by
    by_cases z : k2 = k
    · subst z
      have e2 : d2 = d := by simpa [valD] using e
      subst e2
      exact ⟨v2, by simp [valV], h⟩
    · obtain ⟨v, q1, q2⟩ := RepK.val (k := k) (d := d) r (by simpa [valD, List.find?_cons, z] using e)
      exact ⟨v, by rw [valV_neg (p := (k2, v2)) z]; exact q1, q2⟩
theorem RepK.val_none {K : PySem.W.Frag} {B : Hp} {k : Key} : ∀ {vs : List (Key × V)} {ds : List (Key × D)}, RepK K B vs ds → valD ds k = none → valV vs k = none
  | _, _, .nil, e => rfl
  | (k2, v2) :: vs, (_, d2) :: ds, .cons h r, e => by
    by_cases z : k2 = k
    · subst z
      simp [valD] at e
    · rw [valV_neg (p := (k2, v2)) z]
      exact RepK.val_none (k := k) r (by simpa [valD, List.find?_cons, z] using e)
/-- the pairs of a display -/
def dPairs : List (DE × DE) → DX → DEnv → (List (D × D) → Prop) → Prop
  | [], _, _, P => P []
  | (dk, dv) :: l, xc, r, P => dk xc r fun x => dv xc r fun y => asD (fun d => dPairs l xc r fun ps => P ((x.d, d) :: ps)) y
def keysD : List (D × D) → Option (List (Key × D))
  | [] => some []
  | (k, v) :: r => match keyD k, keysD r with
    | some q, some l => some ((q, v) :: l)
    | _, _ => none
def mergeD (kvs more : List (Key × D)) : List (Key × D) := more.foldl (fun acc kv => putD acc kv.1 kv.2) kvs
theorem RepK.merge {K : PySem.W.Frag} {B : Hp} : ∀ {more : List (Key × V)} {md : List (Key × D)}, RepK K B more md → ∀ {vs : List (Key × V)} {ds : List (Key × D)}, RepK K B vs ds → RepK K B (mergeK vs more) (mergeD ds md)
  | _, _, .nil, _, _, r => r
  | _, _, .cons h m, _, _, r => RepK.merge m (r.put h)
def dDisp (l : List (DE × DE)) : DE := fun xc r P => dPairs l xc r fun ps => onO (keysD ps) fun kds => kds.length ≤ 15 ∧ P (.tmp (.dic (mergeD [] kds)))
/-- the derivations of a display's pairs -/
inductive QPs (X : Cx) (W : WX) (pos : Pos) : List (Option Expr) → List Expr → List (TE × TE) → List (DE × DE) → Prop
  | nil : QPs X W pos [] [] [] []
  | cons {k v : Expr} {ks : List (Option Expr)} {vs : List Expr} {ts : List (TE × TE)} {l : List (DE × DE)} {dk dv : DE} (hk : PE X k (L X.K W true dk)) (hv : PE X v (L X.K W true dv)) (r : QPs X W pos ks vs ts l) :
      QPs X W pos (some k :: ks) (v :: vs) ((L X.K W true dk, L X.K W true dv) :: ts) ((dk, dv) :: l)
theorem QPs.pps {pos : Pos} {ks : List (Option Expr)} {vs : List Expr} {ts : List (TE × TE)} {l : List (DE × DE)} (h : QPs X W pos ks vs ts l) : PPs X pos ks vs ts := by
  induction h with
  | nil => exact pps_nil
  | cons hk hv _ ih => exact pps_cons hk hv ih
theorem key_v {K : PySem.W.Frag} {B H : Hp} {v : V} {x : Val} {k : Key} (r : RepV K B H v x) (e : keyD x.d = some k) : v = kV k := by
  cases h : x.d with
  | int i =>
    rw [h] at e
    cases e
    exact rv_int r h
  | str i =>
    rw [h] at e
    cases e
    exact rv_str r h
  | _ => rw [h] at e; cases e
theorem l_pairs {pos : Pos} {ks : List (Option Expr)} {vs : List Expr} {ts : List (TE × TE)} {l : List (DE × DE)} (h : QPs X W pos ks vs ts l) : ∀ (s : L2.St) (B H : Hp) (r : DEnv) (xc : DX) (P : List (D × D) → Prop) (Q : List (V × V) → Hp → Prop), Kp B H → EnvRep X.K B H s r → dPairs l xc r P →
    (∀ cls d e H' B', Step B H B' H' → ExcRep X.K B' cls d e → xc e r → W cls d s H') →
    (∀ (ps : List (V × V)) (pd : List (D × D)) H' B', Step B H B' H' → P pd → (∀ kds, keysD pd = some kds → ∃ kvs, ps = kvs.map (fun kv => (kV kv.1, kv.2)) ∧ RepK X.K B' kvs kds) → Q ps H') → tPairs ts s H Q := by
  induction h with
  | nil => exact fun s B H r xc P Q k en h hx hq => hq [] [] H B (.refl k) h fun kds e => ⟨[], rfl, by cases e; exact .nil⟩
  | cons hk hv _ ih =>
    intro s B H r xc P Q k en h hx hq
    refine ⟨B, r, xc, _, k, en, h, hx, fun x vx H1 B1 z1 rx _ q1 => ?_⟩
    refine ⟨B1, r, xc, _, z1.sub, en.step z1, q1, fun cls d e H' B' st => hx cls d e H' B' (z1.trans st), fun y vy H2 B2 z2 ry _ q2 => ?_⟩
    cases vy with
    | tmp c => exact q2.elim
    | dat d =>
      have z12 := z1.trans z2
      refine ih s B2 H2 r xc _ _ z2.sub (en.step z12) q2 (fun cls d e H' B' st => hx cls d e H' B' (z12.trans st)) fun ps pd H3 B3 z3 p3 w => ?_
      refine hq _ _ H3 B3 (z12.trans z3) p3 fun kds e => ?_
      unfold keysD at e
      split at e
      · rename_i q l e1 e2
        cases e
        obtain ⟨kvs, rfl, rk⟩ := w l e2
        exact ⟨(q, y) :: kvs, by rw [key_v rx e1]; rfl, .cons (Rep.mono z3.kp ry) rk⟩
      · cases e
theorem q_disp {pos : Pos} {ks : List (Option Expr)} {vs : List Expr} {ts : List (TE × TE)} {l : List (DE × DE)} (h : QPs X W pos ks vs ts l) (hall : ks.all (·.isSome) = true) (hl : ks.length = vs.length) (h0 : ks ≠ []) (h15 : ks.length ≤ 15) : PE X (.Dict ks vs pos) (L X.K W true (dDisp l)) := by
  refine imE (pe_disp h.pps hall hl h0 h15) fun s H Q ⟨B, r, xc, P, k, en, hd, hx, hq⟩ => fun p n => ?_
  have z0 : Step B H B (upd H p (.dK [])) := .tmp k n
  refine l_pairs h s B _ r xc _ _ z0.sub (en.step z0) hd (fun cls d e H' B' st => hx cls d e H' B' (z0.trans st)) fun ps pd H2 B2 z2 p2 w => ?_
  obtain ⟨kds, e, p2⟩ := onO_elim p2
  · obtain ⟨kvs, rfl, rk⟩ := w kds e
    have hp := z2.out p (.dK []) upd_same (k.none n)
    have lk : ∀ {a : List (Key × V)} {b : List (Key × D)}, RepK X.K B2 a b → a.length = b.length := by
      intro a
      induction a with
      | nil => intro b r; cases r; rfl
      | cons x a ih => intro b r; cases r with | cons h r => exact congrArg (· + 1) (ih r)
    refine ⟨hp.1, kvs, rfl, by rw [lk rk]; exact p2.1, ?_⟩
    have z : Step B H B2 (upd H2 p (.dK (mergeK [] kvs))) := ⟨z2.kp, z2.sub.upd hp.2, fun a o ha nb => by
      have ne : a ≠ p := ne_of_none ha n
      rw [upd_ne ne]
      exact z2.out a o (by rw [upd_ne ne]; exact ha) nb⟩
    exact hq (.ref p) (.tmp (.dic (mergeD [] kds))) _ B2 z ⟨p, rfl, hp.2, _, upd_same, RepK.merge rk .nil⟩ (fun _ q c e _ => by cases e; exact n) p2.2
def dNewD : DE := fun _ _ P => P (.tmp (.dic []))
theorem q_newD {pos : Pos} : PE X (.Dict [] [] pos) (L X.K W true dNewD) := imE pe_dnewK fun s H Q ⟨B, r, xc, P, k, en, h, hx, hq⟩ => fun p n =>
  hq (.ref p) (.tmp (.dic [])) _ B (.tmp k n) ⟨p, rfl, k.none n, [], upd_same, .nil⟩ (fun _ q c e _ => by cases e; exact n) h
end
end Dl
/-! Dl5: draws. -/
namespace Dl
open PySem PySem.Spec PyProof.Rows L2
section
variable {X : Cx} {W : WX}
def drIn (key : Str) (n : Int) : Prop := 0 ≤ n ∧ (key = "mixed" → n < 2147483647)
/-- d["rest"], d["mixed"] of a draw: any number that may stand there -/
def dDrawGet (i : Nat) (key : Str) : DE := fun _ r P => match lk r i with
  | some (.dat .draw) => ∀ n : Int, drIn key n → P (.dat (.int n))
  | _ => False
theorem key_ne : ("rest" : Str) ≠ "mixed" := by decide
theorem q_drawGet (i : Nat) {x key : Str} {j : Nat} {p1 p2 pos : Pos} (hk : key = "rest" ∨ key = "mixed") (hu : X.A.units + 1 < cLine) (hx : PE X (.Name x p1) (tVar i)) (hs : NoSl (.Constant (.str key) j p2)) :
    PE X (.Subscript (.Name x p1) (.Constant (.str key) j p2) pos) (L X.K W true (dDrawGet i key)) := by
  refine imE (pe_dget hu hx pe_str hs) fun s H Q ⟨B, r, xc, P, k, en, h, hx, hq⟩ => ?_
  unfold dDrawGet at h
  split at h
  · rename_i e
    obtain ⟨v, hv, rv⟩ := en.at_ i _ e
    cases rv with
    | @draw a o hb d =>
      obtain ⟨u, hu, a1, a2, mo, rfl, b1, b2, b3, b4, b5⟩ := k.draw hb d
      refine ⟨.ref a, hv, a, ?_⟩
      rcases hk with rfl | rfl
      · exact ⟨.int a1, rfl, DGet.k (k := .inr "rest") hu, hq _ (.dat (.int a1)) H B (.refl k) (.int a1) (fun _ => Fr.dat) (h a1 ⟨b1, fun z => absurd z key_ne⟩)⟩
      · exact ⟨.int a2, rfl, DGet.k (k := .inr "mixed") hu, hq _ (.dat (.int a2)) H B (.refl k) (.int a2) (fun _ => Fr.dat) (h a2 ⟨b2, fun _ => b3⟩)⟩
  · exact h.elim
theorem map_same {k : Key} {v : V} : ∀ {mo : List (Key × V)}, (∀ p ∈ mo, p.1 ≠ k) → (mo.map fun kv => if kv.1 = k then (kv.1, v) else kv) = mo
  | [], _ => rfl
  | a :: r, h => by
    rw [List.map_cons, if_neg (h a (List.mem_cons_self ..)), map_same fun p hp => h p (List.mem_cons_of_mem _ hp)]
theorem put_rest {mo : List (Key × V)} (a b n : V) (h : ∀ p ∈ mo, p.1 ≠ .inr "rest") : putK ((.inr "rest", a) :: (.inr "mixed", b) :: mo) (.inr "rest") n = (.inr "rest", n) :: (.inr "mixed", b) :: mo := by
  unfold putK
  rw [if_pos (by rw [List.any_cons]; simp), List.map_cons, List.map_cons, map_same h, if_pos rfl, if_neg (fun e => key_ne (Sum.inr.inj e).symm)]
theorem put_mixed {mo : List (Key × V)} (a b n : V) (h : ∀ p ∈ mo, p.1 ≠ .inr "mixed") : putK ((.inr "rest", a) :: (.inr "mixed", b) :: mo) (.inr "mixed") n = (.inr "rest", a) :: (.inr "mixed", n) :: mo := by
  unfold putK
  rw [if_pos (by rw [List.any_cons, List.any_cons]; simp), List.map_cons, List.map_cons, map_same h, if_neg (fun e => key_ne (Sum.inr.inj e)), if_pos rfl]
/-- d["rest"] = e, d["mixed"] = e of a draw -/
def dDrawPut (i : Nat) (key : Str) (de : DE) : DS := fun xc E r => match lk r i with
  | some (.dat .draw) => de xc r fun x => asI (fun n => drIn key n ∧ E.nx r) x.d
  | _ => False
theorem qs_drawPut (i : Nat) {x key : Str} {j : Nat} {p1 p2 p3 pos : Pos} {e : Expr} {de : DE} {f : Bool} (hk : key = "rest" ∨ key = "mixed") (hu : X.A.units + 1 < cLine) (hx : PE X (.Name x p1) (tVar i)) (he : PE X e (L X.K W f de))
    (hs : swapsWith e (some (.Subscript (.Name x p1) (.Constant (.str key) j p2) p3)) pos.line X.env = pure false := by rfl) :
    PS X (.Assign [.Subscript (.Name x p1) (.Constant (.str key) j p2) p3] e pos) (LS X.K W (dDrawPut i key de)) := by
  refine imS (ps_dput hu hx pe_str he hs) fun E s H ⟨B, r, xc, De, k, en, h, hx, nx, bk, ct, rt⟩ => ?_
  unfold dDrawPut at h
  split at h
  · rename_i el
    refine ⟨B, r, xc, _, k, en, h, fun cls d e H' B' z => hx cls d e s r H' B' z.s (en.step z), fun v x H1 B1 z rv _ q => ?_⟩
    obtain ⟨n, en2, q⟩ := asI_elim q
    · have ev := rv_int rv en2
      subst ev
      obtain ⟨vd, hv, rd⟩ := (en.step z).at_ i _ el
      cases rd with
      | @draw a o hb d =>
        obtain ⟨u, hu1, a1, a2, mo, rfl, b1, b2, b3, b4, b5⟩ := z.sub.draw hb d
        have lm : ((.inr "rest", V.int a1) :: (.inr "mixed", V.int a2) :: mo : List (Key × V)).length < sizeLine := by
          rw [List.length_cons, List.length_cons]
          exact Nat.lt_of_le_of_lt (Nat.add_le_add_right (Nat.add_le_add_right b4 1) 1) (by decide)
        rcases hk with rfl | rfl
        · have e0 := put_rest (V.int a1) (V.int a2) (V.int n) fun p hp => (b5 p hp).1
          have z2 : Step B1 H1 B1 (upd H1 a (.dK (putK ((.inr "rest", V.int a1) :: (.inr "mixed", V.int a2) :: mo) (.inr "rest") (V.int n)))) := .draw z.sub hb (.inl d) (.inl ⟨d, by rw [e0]; exact ⟨n, a2, mo, rfl, q.1.1, b2, b3, b4, b5⟩⟩)
          exact ⟨.ref a, hv, a, _, rfl, DPut.k (k := .inr "rest") hu1 lm, nx _ _ _ _ (z.trans z2).s (en.step (z.trans z2)) q.2⟩
        · have e0 := put_mixed (V.int a1) (V.int a2) (V.int n) fun p hp => (b5 p hp).2
          have z2 : Step B1 H1 B1 (upd H1 a (.dK (putK ((.inr "rest", V.int a1) :: (.inr "mixed", V.int a2) :: mo) (.inr "mixed") (V.int n)))) := .draw z.sub hb (.inl d) (.inl ⟨d, by rw [e0]; exact ⟨a1, n, mo, rfl, b1, q.1.1, q.1.2 rfl, b4, b5⟩⟩)
          exact ⟨.ref a, hv, a, _, rfl, DPut.k (k := .inr "mixed") hu1 lm, nx _ _ _ _ (z.trans z2).s (en.step (z.trans z2)) q.2⟩
  · exact h.elim
/-- a new dict that is a draw -/
def dDraw (de : DE) : DE := fun xc r P => de xc r fun x => (∃ (a b : Int) (m : List (Key × D)), x = .tmp (.dic ((.inr "rest", .int a) :: (.inr "mixed", .int b) :: m)) ∧ 0 ≤ a ∧ 0 ≤ b ∧ b < 2147483647 ∧ m.length ≤ 20 ∧ ∀ p ∈ m, p.1 ≠ .inr "rest" ∧ p.1 ≠ .inr "mixed") ∧ P (.dat .draw)
theorem RepK.keys {K : PySem.W.Frag} {B : Hp} : ∀ {vs : List (Key × V)} {ds : List (Key × D)}, RepK K B vs ds → vs.map (·.1) = ds.map (·.1)
  | _, _, .nil => rfl
  | _, _, .cons _ r => by rw [List.map_cons, List.map_cons, RepK.keys r]
theorem q_draw {e : Expr} {de : DE} (h : PE X e (L X.K W true de)) : PE X e (L X.K W true (dDraw de)) := by
  refine imE h fun s H Q ⟨B, r, xc, P, k, en, h, hx, hq⟩ => ⟨B, r, xc, _, k, en, h, hx, fun v x H1 B1 s1 rx fr q => ?_⟩
  obtain ⟨⟨a, b, m, rfl, h1, h2, h3, h4, h5⟩, q⟩ := q
  obtain ⟨p, rfl, n, kvs, hp, rk⟩ := rx
  have np := fr rfl p _ rfl rfl
  have ekv : ∃ mo, kvs = (.inr "rest", .int a) :: (.inr "mixed", .int b) :: mo ∧ mo.map (·.1) = m.map (·.1) := by
    cases rk with
    | cons r1 rk =>
      cases rk with
      | cons r2 rk =>
        cases r1
        cases r2
        exact ⟨_, rfl, rk.keys⟩
  obtain ⟨mo, rfl, ek⟩ := ekv
  have dr : DrawD (.dK ((.inr "rest", .int a) :: (.inr "mixed", .int b) :: mo)) := ⟨a, b, mo, rfl, h1, h2, h3, by rw [← List.length_map (f := (·.1)), ek, List.length_map]; exact h4, fun p hp => by
    have hm : p.1 ∈ m.map (·.1) := by rw [← ek]; exact List.mem_map.mpr ⟨p, hp, rfl⟩
    obtain ⟨q, hq, e⟩ := List.mem_map.mp hm
    rw [← e]
    exact h5 q hq⟩
  have z : Step B H (upd B1 p (.dK ((.inr "rest", .int a) :: (.inr "mixed", .int b) :: mo))) H1 := ⟨s1.kp.trans (.new n), fun c u e => by
    by_cases z : c = p
    · subst z
      rw [upd_same] at e
      cases e
      exact ⟨fun _ => hp, fun d => ⟨_, hp, .refl d⟩⟩
    · rw [upd_ne z] at e
      exact s1.sub c u e, fun c u e nb => by
    have ne : c ≠ p := fun z => by rw [z, np] at e; cases e
    rw [upd_ne ne]
    exact s1.out c u e nb⟩
  exact hq (.ref p) (.dat .draw) H1 _ z (.draw upd_same dr) (fun _ => Fr.dat) q
end
end Dl
/-! Dl6: constants of the top, defs that are not called, the law's entry. -/
namespace Dl
open PySem PySem.Spec PyProof.Rows L2
def strV : Value → Option Str
  | .str x _ => some x
  | _ => none
def isTupC : Value → Bool
  | .type n => n == "tuple"
  | _ => false
def cstTup (o : Obj) (ks : List Str) : Bool := isTupC o.cls && (match o.data with
  | .seq its _ => decide (its.toList.map strV = ks.map some) && decide (its.size ≤ sizeLine)
  | _ => false)
theorem vals_of_strs {K : PySem.W.Frag} {B : Hp} : ∀ {us : List Value} {ks : List Str}, us.map strV = ks.map some → Vals (ks.map V.str) us
  | [], [], _ => .nil
  | [], _ :: _, h => nomatch h
  | _ :: _, [], h => nomatch h
  | u :: us, k :: ks, h => by
    rw [List.map_cons, List.map_cons] at h
    injection h with h1 h2
    cases u <;> first
      | (cases h1; exact .cons ⟨_, rfl⟩ (vals_of_strs (K := K) (B := B) h2))
      | cases h1
theorem isTupC_is : ∀ {v : Value}, isTupC v = true → v = .type "tuple"
  | .type n, h => by
    have e : n = "tuple" := by simpa [isTupC] using h
    rw [e]
theorem cstTup_rep {K : PySem.W.Frag} {B : Hp} {a : Addr} {o : Obj} {ks : List Str} (r : K.lookup a = some o) (t : cstTup o ks = true) : Rep K B (.ref a) (.tup (ks.map D.str)) := by
  unfold cstTup at t
  have t := Bool.and_eq_true_iff.mp t
  obtain ⟨t1, t2⟩ := t
  have hc : o.cls = .type "tuple" := isTupC_is t1
  cases e : o.data with
  | seq its n =>
    rw [e] at t2
    have t2 := Bool.and_eq_true_iff.mp t2
    have h1 := of_decide_eq_true t2.1
    have h2 := of_decide_eq_true t2.2
    refine .tup (.inr ⟨o, its, n, r, hc, e, h2, vals_of_strs (K := K) (B := B) h1⟩) (RepL.strs ks)
  | _ => rw [e] at t2; cases t2
def cstV (u : Value) (d : D) : Bool := match u, d with
  | .int i _, .int j => i == j
  | .str x _, .str y => x == y
  | .bool x, .bl y => x == y
  | .none, .non => true
  | _, _ => false
theorem cstV_rep {K : PySem.W.Frag} {u : Value} {d : D} (t : cstV u d = true) : RelV (dV d) u ∧ ∀ B, Rep K B (dV d) d := by
  unfold cstV at t
  split at t
  · rename_i i tk j
    have e : i = j := by simpa using t
    subst e
    exact ⟨⟨_, rfl⟩, fun B => .int i⟩
  · rename_i i tk j
    have e : i = j := by simpa using t
    subst e
    exact ⟨⟨_, rfl⟩, fun B => .str i⟩
  · rename_i i j
    have e : i = j := by simpa using t
    subst e
    exact ⟨rfl, fun B => .bl i⟩
  · exact ⟨rfl, fun B => .non⟩
  · cases t
section
variable {P : Program} {w : World} {K : PySem.W.Frag} {mg : Str → Option Value} {base : Heap}
/-- a promise that nobody can ask for -/
theorem fn_no {CX : CXT} {k : Nat} {f : Addr} {fd : FuncData} {ps : List Str} {sp : DSp} (no : ∀ ds xc R, ¬ sp ds xc R) : FnOk P w K mg base CX k f fd ps (spD K sp) :=
  have z : ∀ vs H Q E, ¬ spD K sp vs H Q E := fun vs H Q E ⟨_, ds, xc, R, _, _, h, _⟩ => no ds xc R h
  ⟨fun vs H Q E h => absurd h (z vs H Q E), fun A outer s H args us vs Q E _ _ _ _ h => absurd h (z vs H Q E)⟩
theorem law_in {sp : DSp} {H : Hp} {a : Addr} {ns : List Int} (hS : SqL K H a (ns.map V.int)) (h : sp [.scr ns] (fun _ => False) (fun v => v = .dat (.bl true))) : spD K sp [.ref a] H (fun v _ => v = .bl true) fun _ _ _ => False :=
  ⟨H, [.scr ns], fun _ => False, fun v => v = .dat (.bl true), .refl H, .cons (.scr hS) .nil, h, fun _ _ _ _ _ _ _ z => z.elim, fun v x H' B' z rv fr p => by subst p; cases rv; rfl⟩
end
/-! ### plain facts for the readings -/
theorem mulOk {i j : Int} (hi : -(2 ^ 64) < i ∧ i < 2 ^ 64) (hj : -(2 ^ 64) < j ∧ j < 2 ^ 64) : CMulW i j :=
  wide_mul (a := 64) (b := 64) (by omega) (by omega) (by decide) (by decide) (by decide)
theorem divOk {i j : Int} (hj : 0 < j) (hl : j < 2 ^ 100) : CDivW i j := wide_div (b := 100) hj (by omega) (by decide) (by decide)
theorem atI_get {α : Type} {l : List α} {i : Int} (h0 : 0 ≤ i) (h : i < (l.length : Int)) : ∃ d, atI l i = some d ∧ d ∈ l := by
  have hk : i.toNat < l.length := by omega
  have e : i = ((i.toNat : Nat) : Int) := by omega
  have q : atI l ((i.toNat : Nat) : Int) = some l[i.toNat] := atI_nat (by rw [List.getElem?_eq_getElem hk])
  rw [← e] at q
  exact ⟨_, q, List.getElem_mem hk⟩
end Dl
/-! Dl7: the equations by which readings are opened. Printed by mkeqs.py. -/
namespace Dl
open PySem PySem.Spec PyProof.Rows L2
theorem y001 (C : Int → Int → Prop) (g : Int → Int → D) (P : Val → Prop) (i j : Int) : (fID C g P (.int i) (.int j)) = (C i j ∧ P (.dat (g i j))) := rfl
theorem y002 (g : Int → Int → D) (P : Val → Prop) (i j : Int) : (fI0D g P (.int i) (.int j)) = (P (.dat (g i j))) := rfl
theorem y003 (P : Val → Prop) (i : Int) : (fNegD P (.int i)) = (P (.dat (.int (-i)))) := rfl
theorem y004 (P : Val → Prop) (i j : Int) : (fAddD P (.int i) (.int j)) = (P (.dat (.int (i + j)))) := rfl
theorem y005 (P : Val → Prop) (i j : Str) : (fAddD P (.str i) (.str j)) = (i.length + j.length ≤ sizeLine ∧ P (.dat (.str (i ++ j)))) := rfl
theorem y006 (P : Val → Prop) (i j : List D) : (fAddD P (.lst i) (.lst j)) = (i.length + j.length ≤ sizeLine ∧ P (.tmp (.lst (i ++ j)))) := rfl
theorem y007 (P : Val → Prop) (i j : List D) : (fAddD P (.tup i) (.tup j)) = (i.length + j.length ≤ sizeLine ∧ P (.dat (.tup (i ++ j)))) := rfl
theorem y008 (P : Val → Prop) (x : D) : (fIsD P x .non) = (P (.dat (.bl x.isN))) := rfl
theorem y009 (P : Val → Prop) (a b : Bool) : (fIsD P (.bl a) (.bl b)) = (P (.dat (.bl (decide (a = b))))) := rfl
theorem y010 (P : Val → Prop) (x : D) : (fIsNotD P x .non) = (P (.dat (.bl (!x.isN)))) := rfl
theorem y011 (P : Val → Prop) (a b : Bool) : (fIsNotD P (.bl a) (.bl b)) = (P (.dat (.bl (!decide (a = b))))) := rfl
theorem y012 (neg : Bool) (P : Val → Prop) (x : D) (l : List D) : (fInD neg P x (.lst l)) = ((flatD x = true ∧ l.all flatD = true) ∧ P (.dat (.bl (if neg then !inD x l else inD x l)))) := rfl
theorem y013 (neg : Bool) (P : Val → Prop) (x : D) (l : List D) : (fInD neg P x (.tup l)) = ((flatD x = true ∧ l.all flatD = true) ∧ P (.dat (.bl (if neg then !inD x l else inD x l)))) := rfl
theorem y014 (neg : Bool) (P : Val → Prop) (x : D) (z : Str) : (fInD neg P x (.str z)) = (∃ c, x = .str ⟨#[c]⟩ ∧ P (.dat (.bl (if neg then !decide (c ∈ z.cps.toList) else decide (c ∈ z.cps.toList))))) := rfl
theorem y015 (P : Bool → Prop) : (fTruD P .non) = (P false) := rfl
theorem y016 (P : Bool → Prop) (b : Bool) : (fTruD P (.bl b)) = (P b) := rfl
theorem y017 (P : Bool → Prop) (i : Int) : (fTruD P (.int i)) = (P (i != 0)) := rfl
theorem y018 (P : Bool → Prop) (y : Str) : (fTruD P (.str y)) = (y.length ≤ sizeLine ∧ P ((y.length : Int) != 0)) := rfl
theorem y019 (P : Bool → Prop) (l : List D) : (fTruD P (.tup l)) = (P (!l.isEmpty)) := rfl
theorem y020 (P : Bool → Prop) (l : List D) : (fTruD P (.lst l)) = (P (!l.isEmpty)) := rfl
theorem y021 (P : Bool → Prop) (l : List (Key × D)) : (fTruD P (.dic l)) = (P (!l.isEmpty)) := rfl
theorem y022 (P : Bool → Prop) (l : List Int) : (fTruD P (.scr l)) = (P (!l.isEmpty)) := rfl
theorem y023 (P : Val → Prop) (l : List D) (i : Int) : (fIxD P (.tup l) (.int i)) = (onO (atI l i) fun d => P (.dat d)) := rfl
theorem y024 (P : Val → Prop) (l : List D) (i : Int) : (fIxD P (.lst l) (.int i)) = (onO (atI l i) fun d => P (.dat d)) := rfl
theorem y025 (P : Val → Prop) (l : List Int) (i : Int) : (fIxD P (.scr l) (.int i)) = (onO (atI l i) fun n => P (.dat (.int n))) := rfl
theorem y026 (P : Val → Prop) (z : Str) (i : Int) : (fIxD P (.str z) (.int i)) = (z.length ≤ sizeLine ∧ onO (atI z.cps.toList i) fun c => P (.dat (.str ⟨#[c]⟩))) := rfl
theorem y027 (P : Val → Prop) (z : Str) : (fLenD P (.str z)) = (z.length ≤ sizeLine ∧ P (.dat (.int z.length))) := rfl
theorem y028 (P : Val → Prop) (l : List D) : (fLenD P (.tup l)) = (P (.dat (.int l.length))) := rfl
theorem y029 (P : Val → Prop) (l : List D) : (fLenD P (.lst l)) = (P (.dat (.int l.length))) := rfl
theorem y030 (P : Val → Prop) (l : List Int) : (fLenD P (.scr l)) = (P (.dat (.int l.length))) := rfl
theorem y031 (P : Val → Prop) (i : Int) : (fAbsD P (.int i)) = (P (.dat (.int (if i < 0 then -i else i)))) := rfl
theorem y032 (P : Val → Prop) (i : Int) : (fIntD P (.int i)) = (P (.dat (.int i))) := rfl
theorem y033 (P : Val → Prop) (b : Bool) : (fIntD P (.bl b)) = (P (.dat (.int (if b then 1 else 0)))) := rfl
theorem y034 (P : Val → Prop) (l : List D) : (fListD P (.lst l)) = (P (.tmp (.lst l))) := rfl
theorem y035 (P : Val → Prop) (l : List D) : (fTupleD P (.lst l)) = (P (.dat (.tup l))) := rfl
theorem y036 (P : Val → Prop) (l : List D) : (fListD P (.tup l)) = (P (.tmp (.lst l))) := rfl
theorem y037 (P : Val → Prop) (l : List D) : (fTupleD P (.tup l)) = (P (.dat (.tup l))) := rfl
theorem y038 (P : Val → Prop) (l : List Int) : (fListD P (.scr l)) = (P (.tmp (.lst (l.map D.int)))) := rfl
theorem y039 (P : Val → Prop) (l : List Int) : (fTupleD P (.scr l)) = (P (.dat (.tup (l.map D.int)))) := rfl
theorem y040 (P : Val → Prop) (l : List D) : (fAllD P (.lst l)) = (onO (blsOf l) fun bs => P (.dat (.bl (bs.all id)))) := rfl
theorem y041 (P : Val → Prop) (l : List D) : (fAnyD P (.lst l)) = (onO (blsOf l) fun bs => P (.dat (.bl (bs.any id)))) := rfl
theorem y042 (P : Val → Prop) (a b : Str) : (fSplitD P (.str a) (.str b)) = (((b.length == 0) = false ∧ a.length + 2 ≤ sizeLine) ∧ P (.tmp (.lst ((Txt.split a b).map D.str)))) := rfl
theorem y043 (P : Val → Prop) (a : Str) (l : List D) : (fJoinD P (.str a) (.lst l)) = (onO (strsOf l) fun ys => (ys.map (·.length)).sum + ys.length * a.length ≤ 16777216 ∧ P (.dat (.str (Txt.join a ys)))) := rfl
theorem y044 (P : Val → Prop) (a : Str) (l : List D) : (fJoinD P (.str a) (.tup l)) = (onO (strsOf l) fun ys => (ys.map (·.length)).sum + ys.length * a.length ≤ 16777216 ∧ P (.dat (.str (Txt.join a ys)))) := rfl
theorem y045 (P : Bool → Prop) (b : Bool) : (asB P (.bl b)) = (P b) := rfl
theorem y046 (P : D → Prop) (d : D) : (asD P (.dat d)) = (P d) := rfl
theorem y047 (P : D → Prop) (c : Ct) : (asD P (.tmp c)) = (False) := rfl
theorem y048 (P : Int → Prop) (i : Int) : (asI P (.int i)) = (P i) := rfl
theorem y049 (P : Str → Prop) (s : Str) : (asS P (.str s)) = (P s) := rfl
theorem y050 (P : List D → Prop) (l : List D) : (fItD P (.lst l)) = (P l) := rfl
theorem y051 (P : List D → Prop) (l : List D) : (fItD P (.tup l)) = (P l) := rfl
theorem y052 (P : List D → Prop) (l : List Int) : (fItD P (.scr l)) = (P (l.map D.int)) := rfl
theorem y053 (P : List D → Prop) (y : Str) : (fItD P (.str y)) = (P (y.cps.toList.map fun c => D.str ⟨#[c]⟩)) := rfl
theorem y054 (lo hi : Option Int) (P : Val → Prop) (l : List D) : (fSlD lo hi P (.lst l)) = (P (.tmp (.lst (cutD l lo hi)))) := rfl
theorem y055 (lo hi : Option Int) (P : Val → Prop) (l : List D) : (fSlD lo hi P (.tup l)) = (P (.dat (.tup (cutD l lo hi)))) := rfl
theorem y056 (lo hi : Option Int) (P : Val → Prop) (z : Str) : (fSlD lo hi P (.str z)) = (z.length ≤ sizeLine ∧ P (.dat (.str (cutS z lo hi)))) := rfl
theorem y057 (P : List (D × D) → Prop) (xc : DX) (r : DEnv) : (dPairs [] xc r P) = (P []) := rfl
theorem y058 (P : List (D × D) → Prop) (xc : DX) (r : DEnv) (dk dv : DE) (l : List (DE × DE)) : (dPairs ((dk, dv) :: l) xc r P) = (dk xc r fun x => dv xc r fun y => asD (fun d => dPairs l xc r fun ps => P ((x.d, d) :: ps)) y) := rfl
theorem y059 (P : D → Prop) (d : D) : (onO (some d) P) = (P d) := rfl
theorem y060 (d : D) : ((Val.dat d).d) = (d) := rfl
theorem y061 (c : Ct) : ((Val.tmp c).d) = (c.d) := rfl
theorem y062 (l : List D) : ((Ct.lst l).d) = (.lst l) := rfl
theorem y063 (l : List (Key × D)) : ((Ct.dic l).d) = (.dic l) := rfl
theorem y064 (d : D) : ((Val.dat d).safe) = (True) := rfl
theorem y065 (c : Ct) : ((Val.tmp c).safe) = (c.safe) := rfl
theorem y066 (l : List D) : ((Ct.lst l).safe) = (True) := rfl
theorem y067 (A B : Prop) : (ifB true A B) = (A) := rfl
theorem y068 (A B : Prop) : (ifB false A B) = (B) := rfl
theorem y069 : (!true) = (false) := rfl
theorem y070 : (!false) = (true) := rfl
theorem y071 (A B : Bool) : (if true = true then A else B) = (A) := rfl
theorem y072 (A B : Bool) : (if false = true then A else B) = (B) := rfl
theorem y073 : (D.isi .str (.non)) = (false) := rfl
theorem y074 (x : Bool) : (D.isi .str (.bl x)) = (false) := rfl
theorem y075 (x : Int) : (D.isi .str (.int x)) = (false) := rfl
theorem y076 (x : Str) : (D.isi .str (.str x)) = (true) := rfl
theorem y077 (x : String) : (D.isi .str (.ty x)) = (false) := rfl
theorem y078 (x : List D) : (D.isi .str (.tup x)) = (false) := rfl
theorem y079 (x : List D) : (D.isi .str (.lst x)) = (false) := rfl
theorem y080 (x : List (Key × D)) : (D.isi .str (.dic x)) = (false) := rfl
theorem y081 : (D.isi .str (.draw)) = (false) := rfl
theorem y082 (x : List Int) : (D.isi .str (.scr x)) = (false) := rfl
theorem y083 (x : Addr) : (D.isi .str (.obj x)) = (false) := rfl
theorem y084 : (D.isi .int (.non)) = (false) := rfl
theorem y085 (x : Bool) : (D.isi .int (.bl x)) = (true) := rfl
theorem y086 (x : Int) : (D.isi .int (.int x)) = (true) := rfl
theorem y087 (x : Str) : (D.isi .int (.str x)) = (false) := rfl
theorem y088 (x : String) : (D.isi .int (.ty x)) = (false) := rfl
theorem y089 (x : List D) : (D.isi .int (.tup x)) = (false) := rfl
theorem y090 (x : List D) : (D.isi .int (.lst x)) = (false) := rfl
theorem y091 (x : List (Key × D)) : (D.isi .int (.dic x)) = (false) := rfl
theorem y092 : (D.isi .int (.draw)) = (false) := rfl
theorem y093 (x : List Int) : (D.isi .int (.scr x)) = (false) := rfl
theorem y094 (x : Addr) : (D.isi .int (.obj x)) = (false) := rfl
theorem y095 : (D.isi .bool (.non)) = (false) := rfl
theorem y096 (x : Bool) : (D.isi .bool (.bl x)) = (true) := rfl
theorem y097 (x : Int) : (D.isi .bool (.int x)) = (false) := rfl
theorem y098 (x : Str) : (D.isi .bool (.str x)) = (false) := rfl
theorem y099 (x : String) : (D.isi .bool (.ty x)) = (false) := rfl
theorem y100 (x : List D) : (D.isi .bool (.tup x)) = (false) := rfl
theorem y101 (x : List D) : (D.isi .bool (.lst x)) = (false) := rfl
theorem y102 (x : List (Key × D)) : (D.isi .bool (.dic x)) = (false) := rfl
theorem y103 : (D.isi .bool (.draw)) = (false) := rfl
theorem y104 (x : List Int) : (D.isi .bool (.scr x)) = (false) := rfl
theorem y105 (x : Addr) : (D.isi .bool (.obj x)) = (false) := rfl
theorem y106 : (D.isi .tuple (.non)) = (false) := rfl
theorem y107 (x : Bool) : (D.isi .tuple (.bl x)) = (false) := rfl
theorem y108 (x : Int) : (D.isi .tuple (.int x)) = (false) := rfl
theorem y109 (x : Str) : (D.isi .tuple (.str x)) = (false) := rfl
theorem y110 (x : String) : (D.isi .tuple (.ty x)) = (false) := rfl
theorem y111 (x : List D) : (D.isi .tuple (.tup x)) = (true) := rfl
theorem y112 (x : List D) : (D.isi .tuple (.lst x)) = (false) := rfl
theorem y113 (x : List (Key × D)) : (D.isi .tuple (.dic x)) = (false) := rfl
theorem y114 : (D.isi .tuple (.draw)) = (false) := rfl
theorem y115 (x : List Int) : (D.isi .tuple (.scr x)) = (false) := rfl
theorem y116 (x : Addr) : (D.isi .tuple (.obj x)) = (false) := rfl
theorem y117 : (D.isi .list (.non)) = (false) := rfl
theorem y118 (x : Bool) : (D.isi .list (.bl x)) = (false) := rfl
theorem y119 (x : Int) : (D.isi .list (.int x)) = (false) := rfl
theorem y120 (x : Str) : (D.isi .list (.str x)) = (false) := rfl
theorem y121 (x : String) : (D.isi .list (.ty x)) = (false) := rfl
theorem y122 (x : List D) : (D.isi .list (.tup x)) = (false) := rfl
theorem y123 (x : List D) : (D.isi .list (.lst x)) = (true) := rfl
theorem y124 (x : List (Key × D)) : (D.isi .list (.dic x)) = (false) := rfl
theorem y125 : (D.isi .list (.draw)) = (false) := rfl
theorem y126 (x : List Int) : (D.isi .list (.scr x)) = (true) := rfl
theorem y127 (x : Addr) : (D.isi .list (.obj x)) = (false) := rfl
theorem y128 : (D.isi .dict (.non)) = (false) := rfl
theorem y129 (x : Bool) : (D.isi .dict (.bl x)) = (false) := rfl
theorem y130 (x : Int) : (D.isi .dict (.int x)) = (false) := rfl
theorem y131 (x : Str) : (D.isi .dict (.str x)) = (false) := rfl
theorem y132 (x : String) : (D.isi .dict (.ty x)) = (false) := rfl
theorem y133 (x : List D) : (D.isi .dict (.tup x)) = (false) := rfl
theorem y134 (x : List D) : (D.isi .dict (.lst x)) = (false) := rfl
theorem y135 (x : List (Key × D)) : (D.isi .dict (.dic x)) = (true) := rfl
theorem y136 : (D.isi .dict (.draw)) = (true) := rfl
theorem y137 (x : List Int) : (D.isi .dict (.scr x)) = (false) := rfl
theorem y138 (x : Addr) : (D.isi .dict (.obj x)) = (false) := rfl
theorem y139 : (D.plain (.non)) = (true) := rfl
theorem y140 : (flatD (.non)) = (true) := rfl
theorem y141 : (D.isN (.non)) = (true) := rfl
theorem y142 (x : Bool) : (D.plain (.bl x)) = (true) := rfl
theorem y143 (x : Bool) : (flatD (.bl x)) = (true) := rfl
theorem y144 (x : Bool) : (D.isN (.bl x)) = (false) := rfl
theorem y145 (x : Int) : (D.plain (.int x)) = (true) := rfl
theorem y146 (x : Int) : (flatD (.int x)) = (true) := rfl
theorem y147 (x : Int) : (D.isN (.int x)) = (false) := rfl
theorem y148 (x : Str) : (D.plain (.str x)) = (true) := rfl
theorem y149 (x : Str) : (flatD (.str x)) = (true) := rfl
theorem y150 (x : Str) : (D.isN (.str x)) = (false) := rfl
theorem y151 (x : String) : (D.plain (.ty x)) = (false) := rfl
theorem y152 (x : String) : (flatD (.ty x)) = (false) := rfl
theorem y153 (x : String) : (D.isN (.ty x)) = (false) := rfl
theorem y154 (x : List D) : (D.plain (.tup x)) = (true) := rfl
theorem y155 (x : List D) : (flatD (.tup x)) = (false) := rfl
theorem y156 (x : List D) : (D.isN (.tup x)) = (false) := rfl
theorem y157 (x : List D) : (D.plain (.lst x)) = (true) := rfl
theorem y158 (x : List D) : (flatD (.lst x)) = (false) := rfl
theorem y159 (x : List D) : (D.isN (.lst x)) = (false) := rfl
theorem y160 (x : List (Key × D)) : (D.plain (.dic x)) = (true) := rfl
theorem y161 (x : List (Key × D)) : (flatD (.dic x)) = (false) := rfl
theorem y162 (x : List (Key × D)) : (D.isN (.dic x)) = (false) := rfl
theorem y163 : (D.plain (.draw)) = (true) := rfl
theorem y164 : (flatD (.draw)) = (false) := rfl
theorem y165 : (D.isN (.draw)) = (false) := rfl
theorem y166 (x : List Int) : (D.plain (.scr x)) = (false) := rfl
theorem y167 (x : List Int) : (flatD (.scr x)) = (false) := rfl
theorem y168 (x : List Int) : (D.isN (.scr x)) = (false) := rfl
theorem y169 (x : Addr) : (D.plain (.obj x)) = (false) := rfl
theorem y170 (x : Addr) : (flatD (.obj x)) = (false) := rfl
theorem y171 (x : Addr) : (D.isN (.obj x)) = (false) := rfl
/-- one statement, what follows it kept shut -/
theorem seq_k {t u : DS} {xc : DX} {E : DEnds} {r : DEnv} (h : ∀ K : DEnv → Prop, K = u xc E → t xc { E with nx := K } r) : dSeq t u xc E r := h _ rfl
end Dl
/-! Dl8: loops and comprehensions in the forms one uses. -/
namespace Dl
open PySem PySem.Spec PyProof.Rows L2
theorem take_snoc {α : Type} {l : List α} {i : Nat} {x : α} (h : l[i]? = some x) : l.take (i + 1) = l.take i ++ [x] := by
  rw [List.take_add_one, h]
  rfl
theorem small_sz {n : Nat} (h : n ≤ 100000) : n ≤ sizeLine := Nat.le_trans h (by decide)
theorem small_lt {n : Nat} (h : n ≤ 100000) : n < sizeLine := Nat.lt_of_le_of_lt h (by decide)
section
variable {tg : DG} {elt : DE} {cond : DT} {own : List Nat} {r : DEnv} {P : Val → Prop} {items : List D}
/-- [f(x) for x in items] -/
theorem lc_map (f : D → D) (hl : items.length ≤ 100000) (turn : ∀ x ∈ items, ∀ R : D → Prop, R (f x) → tg x (wp r own) fun r2 => elt X0 r2 fun y => asD R y) (fin : P (.tmp (.lst (items.map f)))) : Lc tg dYes elt own r P items := by
  refine ⟨fun i acc => acc = (items.take i).map f, rfl, fun i x acc hx hi => ?_, fun acc hi => by rw [hi, List.take_length]; exact fin⟩
  subst hi
  have q := turn x (List.mem_of_getElem? hx) (fun d => ((items.take i).map f).length < sizeLine ∧ ((items.take i).map f) ++ [d] = (items.take (i + 1)).map f) ⟨small_lt (by
    rw [List.length_map, List.length_take]
    omega), by rw [take_snoc hx, List.map_append]; rfl⟩
  exact q
/-- [.. for x in items], each of the things made in Q with its item -/
theorem lc_rel (Q : D → D → Prop) (hl : items.length ≤ 100000) (turn : ∀ x ∈ items, ∀ R : D → Prop, (∀ d, Q x d → R d) → tg x (wp r own) fun r2 => elt X0 r2 fun y => asD R y)
    (fin : ∀ acc : List D, acc.length = items.length → (∀ (i : Nat) (x d : D), items[i]? = some x → acc[i]? = some d → Q x d) → P (.tmp (.lst acc))) : Lc tg dYes elt own r P items := by
  refine ⟨fun i acc => acc.length = i ∧ i ≤ items.length ∧ ∀ (j : Nat) (x d : D), items[j]? = some x → acc[j]? = some d → Q x d, ⟨rfl, Nat.zero_le _, fun j x d _ h => by simp at h⟩, fun i x acc hx hi => ?_, fun acc hi => fin acc hi.1 hi.2.2⟩
  obtain ⟨h1, h2, h3⟩ := hi
  have hlt : i < items.length := (List.getElem?_eq_some_iff.mp hx).1
  have q := turn x (List.mem_of_getElem? hx) (fun d => acc.length < sizeLine ∧ (acc ++ [d]).length = i + 1 ∧ i + 1 ≤ items.length ∧ ∀ (j : Nat) (y e : D), items[j]? = some y → (acc ++ [d])[j]? = some e → Q y e) fun d hd => ⟨small_lt (by omega), by rw [List.length_append, h1]; rfl, hlt, fun j y e hy he => by
    rcases Nat.lt_or_ge j acc.length with z | z
    · rw [List.getElem?_append_left z] at he
      exact h3 j y e hy he
    · rw [List.getElem?_append_right z] at he
      have e0 : j - acc.length = 0 := by
        cases q : j - acc.length with
        | zero => rfl
        | succ n => rw [q] at he; cases he
      have ej : j = i := by omega
      subst ej
      rw [e0] at he
      cases he
      rw [hx] at hy
      cases hy
      exact hd⟩
  exact q
/-- [f(x) for x in items if c(x)] -/
theorem lc_filter (c : D → Bool) (f : D → D) (hl : items.length ≤ 100000)
    (turn : ∀ x ∈ items, ∀ (Rt : D → Prop) (Rf : Prop), (c x = true → Rt (f x)) → (c x = false → Rf) → tg x (wp r own) fun r2 => cond X0 r2 fun b => ifB b (elt X0 r2 fun y => asD Rt y) Rf)
    (fin : P (.tmp (.lst ((items.filter c).map f)))) : Lc tg cond elt own r P items := by
  refine ⟨fun i acc => acc = ((items.take i).filter c).map f, rfl, fun i x acc hx hi => ?_, fun acc hi => by rw [hi, List.take_length]; exact fin⟩
  subst hi
  have len : (((items.take i).filter c).map f).length < sizeLine := small_lt (by
    have h1 := List.length_filter_le c (items.take i)
    rw [List.length_take] at h1
    rw [List.length_map]
    omega)
  refine turn x (List.mem_of_getElem? hx) _ _ (fun h => ⟨len, ?_⟩) (fun h => ?_)
  · show _ = ((items.take (i + 1)).filter c).map f
    rw [take_snoc hx, List.filter_append, List.map_append, List.filter_cons_of_pos h]
    rfl
  · show _ = ((items.take (i + 1)).filter c).map f
    rw [take_snoc hx, List.filter_append, List.filter_cons_of_neg (by rw [h]; exact Bool.false_ne_true)]
    simp
end
/-- [.. for x in items], each of the things made in Q -/
theorem lc_all {tg : DG} {elt : DE} {own : List Nat} {r : DEnv} {P : Val → Prop} {items : List D} (Q : D → Prop) (hl : items.length ≤ 100000) (turn : ∀ x ∈ items, ∀ R : D → Prop, (∀ d, Q d → R d) → tg x (wp r own) fun r2 => elt X0 r2 fun y => asD R y)
    (fin : ∀ acc : List D, acc.length = items.length → (∀ d ∈ acc, Q d) → P (.tmp (.lst acc))) : Lc tg dYes elt own r P items :=
  lc_rel (fun _ d => Q d) hl turn fun acc h1 h2 => fin acc h1 fun d hd => by
    obtain ⟨i, hi, e⟩ := List.getElem_of_mem hd
    exact h2 i items[i] d (List.getElem?_eq_getElem (by omega)) (by rw [List.getElem?_eq_getElem hi, e])
theorem mem_rng {lo : Int} {n : Nat} {x : D} (h : x ∈ rngD lo n) : ∃ i : Nat, i < n ∧ x = .int (lo + i) := by
  unfold rngD at h
  obtain ⟨i, hi, rfl⟩ := List.mem_map.mp h
  exact ⟨i, List.mem_range.mp hi, rfl⟩
theorem rng_length (lo : Int) (n : Nat) : (rngD lo n).length = n := by
  unfold rngD
  rw [List.length_map, List.length_range]
/-! ### texts -/
theorem len_app (a b : Str) : (a ++ b).length = a.length + b.length := by
  show (a.cps ++ b.cps).size = a.cps.size + b.cps.size
  exact Array.size_append
theorem joinL_nil : ∀ l : List (List Nat), TL.joinL [] l = l.flatten
  | [] => rfl
  | [p] => by simp [TL.joinL]
  | p :: q :: r => by
    show p ++ ([] ++ TL.joinL [] (q :: r)) = _
    rw [List.nil_append, joinL_nil (q :: r)]
    rfl
/-- signs put together -/
theorem join_chars (cs : List Nat) : (Txt.join "" (cs.map fun c => (⟨#[c]⟩ : Str))).cps.toList = cs := by
  show TL.tl _ = cs
  rw [TL.join_eq, TL.tl_join]
  show TL.joinL [] _ = cs
  rw [joinL_nil, List.map_map]
  induction cs with
  | nil => rfl
  | cons c r ih =>
    rw [List.map_cons, List.flatten_cons, ih]
    rfl
theorem inD_strs (s : Str) (l : List Str) : inD (.str s) (l.map D.str) = decide (s ∈ l) := by
  unfold inD inV
  rw [List.map_map, List.any_map]
  induction l with
  | nil => rfl
  | cons a r ih =>
    rw [List.any_cons, ih]
    show ((a == s) || decide (s ∈ r)) = decide (s ∈ a :: r)
    by_cases e : a = s
    · subst e
      simp
    · have e2 : ¬ s = a := fun z => e z.symm
      simp [e, e2]
/-- signs that may stand in a text -/
def okS (s : Str) : Prop := ∀ c ∈ s.cps.toList, c < 0x110000
theorem okS_strOk {s : Str} (h : okS s) : PyData.strOk s = true := by
  unfold PyData.strOk
  rw [← Array.all_toList]
  exact List.all_eq_true.mpr fun c hc => decide_eq_true (h c hc)
theorem app_toList (a b : Str) : (a ++ b).cps.toList = a.cps.toList ++ b.cps.toList := by
  show (a.cps ++ b.cps).toList = _
  exact Array.toList_append
theorem okS_app {a b : Str} (ha : okS a) (hb : okS b) : okS (a ++ b) := fun c hc => by
  rw [app_toList] at hc
  rcases List.mem_append.mp hc with h | h
  · exact ha c h
  · exact hb c h
theorem okS_cut {a : Str} (ha : okS a) (lo hi : Option Int) : okS (cutS a lo hi) := fun c hc => ha c (List.mem_of_mem_drop (List.mem_of_mem_take hc))
theorem okS_rev {a : Str} (ha : okS a) : okS (revS a) := fun c hc => ha c (List.mem_reverse.mp hc)
theorem okS_one {c : Nat} (h : c < 0x110000) : okS ⟨#[c]⟩ := fun d hd => by
  have e : d = c := by simpa using hd
  rw [e]
  exact h
theorem pyL_strs : ∀ l : List Str, pyL (l.map D.str) = l.map PyData.str
  | [] => rfl
  | s :: r => congrArg (PyData.str s :: ·) (pyL_strs r)
theorem okL_strs : ∀ l : List Str, okL (l.map D.str) = true
  | [] => rfl
  | s :: r => okL_strs r
theorem depth_strs : ∀ l : List Str, PyData.depthAll (l.map PyData.str) = 0
  | [] => rfl
  | s :: r => by
    show max 0 (PyData.depthAll (r.map PyData.str)) = 0
    rw [depth_strs r]
    rfl
theorem eqOk_strs {l : List Str} (h : ∀ s ∈ l, okS s) : eqOk (.lst (l.map D.str)) = true := by
  unfold eqOk SeqAt.shaped
  rw [Bool.and_eq_true, Bool.and_eq_true]
  refine ⟨okL_strs l, ?_, decide_eq_true ?_⟩
  · show PyData.canLayAll0 (pyL (l.map D.str)) = true
    rw [pyL_strs]
    rw [PyProof.Rows.canLayAll_strs']
    exact List.all_eq_true.mpr fun s hs => okS_strOk (h s hs)
  · show PyData.depthAll (pyL (l.map D.str)) + 1 ≤ 64
    rw [pyL_strs, depth_strs]
    decide
theorem eqOk_nil : eqOk (.lst []) = true := rfl
theorem eqd_nil (l : List D) : eqd (.lst l) (.lst []) = l.isEmpty := by
  cases l <;> rfl
theorem eqOk_bl (b : Bool) : eqOk (.bl b) = true := rfl
theorem eqd_bl (a b : Bool) : eqd (.bl a) (.bl b) = (a == b) := rfl
theorem flat_strs (l : List Str) : (l.map D.str).all flatD = true := by
  rw [List.all_map]
  exact List.all_eq_true.mpr fun _ _ => rfl
end Dl
/-! Dl9: zip of lists, tuples and texts in any mix. -/
namespace Dl
open PySem PySem.Spec PyProof.Rows L2
/-- what zip walks along -/
inductive Sk where
  | t (a : Addr) | l (a : Addr) | s (y : Str)
def Sk.v : Sk → V
  | .t a => .ref a
  | .l a => .ref a
  | .s y => .str y
def Sk.has (K : PySem.W.Frag) (H : Hp) : Sk → List V → Prop
  | .t a, xs => SqT K H a xs
  | .l a, xs => SqL K H a xs
  | .s y, xs => xs = y.cps.toList.map fun c => V.str ⟨#[c]⟩
def Sk.at_ (it : Addr) : Sk → Nat → Heap → Prop
  | .t a, i, h => h.IsTupleIter it a i
  | .l a, i, h => h.IsListIter it a i
  | .s y, i, h => ∃ t, h.IsStrIter it (strIterType y) y t i
def Sk.base : Sk → List Addr
  | .t a => [a]
  | .l a => [a]
  | .s _ => []
theorem Sk.at_keep {k : Sk} {it : Addr} {i : Nat} {h h' : Heap} (q : k.at_ it i h) (e : ∀ o, h.get? it = some o → h'.get? it = some o) : k.at_ it i h' := by
  cases k with
  | t a => exact Heap.IsTupleIter.at q e
  | l a => exact Heap.IsListIter.at q e
  | s y =>
    obtain ⟨t, o, ho, r⟩ := q
    exact ⟨t, o, e o ho, r⟩
theorem Sk.at_obj {k : Sk} {it : Addr} {i : Nat} {h : Heap} (q : k.at_ it i h) : ∃ o, h.get? it = some o ∧ ∀ v, o.data ≠ .cell v := by
  cases k with
  | t a =>
    obtain ⟨o, e, _, d⟩ := q
    exact ⟨o, e, fun v z => by rw [d] at z; cases z⟩
  | l a =>
    obtain ⟨o, e, _, d⟩ := q
    exact ⟨o, e, fun v z => by rw [d] at z; cases z⟩
  | s y =>
    obtain ⟨t, o, e, _, d⟩ := q
    exact ⟨o, e, fun v z => by rw [d] at z; cases z⟩
section
variable {X : Cx} {pins : List (Addr × Obj)} {σ : L2.St} {H : Hp} {s : Shared}
theorem getU {xs : List V} {us : List Value} (r : Vals xs us) {i : Nat} {u : Value} (h : us[i]? = some u) : ∃ x, xs[i]? = some x ∧ RelV x u := by
  have hl : i < xs.length := by rw [r.length]; exact (List.getElem?_eq_some_iff.mp h).1
  obtain ⟨u', h1, h2⟩ := r.get (List.getElem?_eq_getElem hl)
  rw [h] at h1
  cases h1
  exact ⟨_, List.getElem?_eq_getElem hl, h2⟩
theorem Sk.inj (I : Inv X pins σ H s) {k : Sk} {xs ys : List V} (h : k.has X.K H xs) (g : k.has X.K H ys) : xs = ys := by
  cases k with
  | t a => exact I.tuple_inj h g
  | l a => exact I.list_inj h g
  | s y => exact (show xs = _ from h).trans (show ys = _ from g).symm
theorem Sk.draws (I : Inv X pins σ H s) (hc : X.calm = true) {k : Sk} {xs : List V} (h : k.has X.K H xs) {it : Addr} {i : Nat} (hi : k.at_ it i s.heap) (hne : it ∉ k.base) :
    ∃ n P St, Draws X.prog X.w X.A.in1 it (it :: k.base) n P St ∧ n = xs.length ∧ St i s.heap ∧ (∀ i h, St i h → k.at_ it i h) ∧ ∀ i u, P i u → ∃ x, xs[i]? = some x ∧ RelV x u := by
  have hh : X.A.in1.handled = none := I.ok.hd hc
  cases k with
  | t a =>
    obtain ⟨its, rv, p, _⟩ := I.tuple h
    refine ⟨_, _, _, Draws.tuple hh it a (fun e => hne (by rw [e]; exact List.mem_singleton.mpr rfl)) its.toArray, ?_, ⟨hi, p⟩, fun i h q => q.1, fun i u hu => ?_⟩
    · rw [List.size_toArray, rv.length]
    · exact getU rv (by simpa using hu)
  | l a =>
    obtain ⟨its, rv, p, _⟩ := I.list h
    refine ⟨_, _, _, Draws.list hh it a (fun e => hne (by rw [e]; exact List.mem_singleton.mpr rfl)) its.toArray, ?_, ⟨hi, p.isList⟩, fun i h q => q.1, fun i u hu => ?_⟩
    · rw [List.size_toArray, rv.length]
    · exact getU rv (by simpa using hu)
  | s y =>
    obtain ⟨t, hi⟩ := hi
    have h : xs = _ := h
    subst h
    refine ⟨_, _, _, Draws.text hh it y t, ?_, hi, fun i h q => ⟨t, q⟩, fun i u hu => ?_⟩
    · rw [List.length_map, Array.length_toList]
    · obtain ⟨c, tk, e, rfl⟩ := hu
      refine ⟨.str ⟨#[c]⟩, ?_, ⟨tk, rfl⟩⟩
      rw [List.getElem?_map, Array.getElem?_toList, e]
      rfl
theorem Sk.begins (I : Inv X pins σ H s) {k : Sk} {xs : List V} (h : k.has X.K H xs) {u : Value} (r : RelV k.v u) :
    ∃ o Hh, Begins u o Hh ∧ Hh s.heap ∧ (∀ (h' : Heap) (it : Addr), h'.get? it = some o → k.at_ it 0 h') ∧ ∀ b ∈ k.base, b < s.heap.objs.size := by
  cases k with
  | t a =>
    cases r
    obtain ⟨its, rv, p, _⟩ := I.tuple h
    obtain ⟨o1, ho1, _⟩ := id p
    exact ⟨_, _, begins_tuple a its.toArray, p, fun h' it e => ⟨_, e, rfl, rfl⟩, fun b hb => by rw [List.mem_singleton.mp hb]; exact Heap.lt_size ho1⟩
  | l a =>
    cases r
    obtain ⟨its, rv, p, _⟩ := I.list h
    exact ⟨_, _, begins_list a its.toArray, p.isList, fun h' it e => ⟨_, e, rfl, rfl⟩, fun b hb => by rw [List.mem_singleton.mp hb]; exact p.lt⟩
  | s y =>
    obtain ⟨t, rfl⟩ := r
    exact ⟨_, _, begins_text y t, trivial, fun h' it e => ⟨t, _, e, rfl, rfl⟩, fun b hb => nomatch hb⟩
end
/-- zip of two, as they stand at each turn -/
def ItzS (K : PySem.W.Frag) (a b : Sk) : It :=
  ⟨fun i H => ∃ (xs ys : List V) (x y : V), a.has K H xs ∧ b.has K H ys ∧ xs[i]? = some x ∧ ys[i]? = some y,
    fun i H v H' => ∃ T x y, v = .ref T ∧ H T = none ∧ H' = upd H T (.tup [x, y]) ∧ (∀ xs, a.has K H xs → xs[i]? = some x) ∧ ∀ ys, b.has K H ys → ys[i]? = some y,
    fun i H => ∃ xs ys : List V, a.has K H xs ∧ b.has K H ys ∧ i ≤ xs.length ∧ i ≤ ys.length ∧ (i = xs.length ∨ i = ys.length)⟩
theorem turn_zipS {P : Program} {w : World} {K : PySem.W.Frag} {elts : List Expr} {kk : Nat} {tpos : Pos} {a b : Sk} {z TI TO i1 i2 : Addr} (S : ZipSep2 z TI TO i1 i2 (i1 :: a.base) (i2 :: b.base)) (n1 : i1 ∉ a.base) (n2 : i2 ∉ b.base) :
    Turn P w K (.Tuple elts kk tpos) (ItzS K a b) [z, TI, TO, i1, i2] z (fun i h => IsZip h z TI TO .none ∧ IsTupOf2 h TI (.ref i1) (.ref i2) ∧ (∃ x y, IsTupOf2 h TO x y) ∧ a.at_ i1 i h ∧ b.at_ i2 i h) where
  mem := by simp
  obj := fun i h st c hc => by
    obtain ⟨hz, hTI, ⟨x, y, hTO⟩, h1, h2⟩ := st
    have e' : c = z ∨ c = TI ∨ c = TO ∨ c = i1 ∨ c = i2 := by simpa using hc
    rcases e' with q | q | q | q | q
    · rw [q]; exact ⟨_, hz, fun v q => nomatch q⟩
    · rw [q]; exact ⟨_, hTI, fun v q => nomatch q⟩
    · rw [q]; exact ⟨_, hTO, fun v q => nomatch q⟩
    · rw [q]; exact (Sk.at_obj h1)
    · rw [q]; exact (Sk.at_obj h2)
  keep := fun i h h' st k => by
    obtain ⟨hz, hTI, ⟨x, y, hTO⟩, h1, h2⟩ := st
    exact ⟨k z (by simp) _ hz, k TI (by simp) _ hTI, ⟨x, y, k TO (by simp) _ hTO⟩, Sk.at_keep h1 fun o q => k i1 (by simp) o q, Sk.at_keep h2 fun o q => k i2 (by simp) o q⟩
  item := by
    intro X hP hw hK hc i pins s σ H E I hf st hg
    subst hP hw hK
    obtain ⟨hz, hTI, ⟨x0, y0, hTO⟩, h1, h2⟩ := st
    obtain ⟨xs, ys, x, y, hqx, hqy, hx, hy⟩ := hg
    obtain ⟨m1, P1, St1, D1, e1, st1, bk1, vl1⟩ := Sk.draws I hc hqx h1 n1
    obtain ⟨m2, P2, St2, D2, e2, st2, bk2, vl2⟩ := Sk.draws I hc hqy h2 n2
    subst e1 e2
    have hzl : z < s.heap.objs.size := Heap.lt_size hz
    refine wpAny_pyNext_zipD2_item S D1 D2 hz hTI hTO st1 st2 (List.getElem?_eq_some_iff.mp hx).1 (List.getElem?_eq_some_iff.mp hy).1 fun u u2 h' tk p1 p2 z' TO' h1' h2' hT hsz hk => ?_
    obtain ⟨x', hx', ru⟩ := vl1 i u p1
    obtain ⟨y', hy', ru2⟩ := vl2 i u2 p2
    rw [hx] at hx'
    cases hx'
    rw [hy] at hy'
    cases hy'
    refine ⟨_, rfl, wpAny_letOwnedTupleGo_zip (s := { s with heap := h', toks := tk }) z' fun h'' z'' sb => ?_⟩
    have hT2 : h''.get? s.heap.objs.size = some { cls := .type "tuple", data := .seq #[u, u2] } := (sb.2 _ (Nat.ne_of_gt hzl)).trans hT
    have new : ObjOk X.prog X.w (upd H s.heap.objs.size (.tup [x, y])) h'' s.heap.objs.size (.tup [x, y]) :=
      ⟨by show 2 ≤ sizeLine; decide, [u, u2], .cons ru (.cons ru2 .nil), ⟨_, hT2, rfl, _, rfl⟩⟩
    have I1 : Inv X pins σ (upd H s.heap.objs.size (.tup [x, y])) { s with heap := h'', toks := tk } :=
      I.turnedNew (t' := tk) (ch := [z, TI, TO, i1, i2]) (fun c o hb q => (sb.2 c (fun q' => hb (by simp [q']))).trans (hk c o (fun q' => hb (by simp [q'])) (fun q' => hb (by simp [q'])) (fun q' => hb (by simp [q'])) (fun q' => hb (by simp [q'])) q)) hf (Nat.le_refl _) new
    refine ⟨.ref s.heap.objs.size, _, I1, rfl, ⟨_, x, y, rfl, I.hok.fresh (Nat.le_refl _), rfl, fun l hl => by rw [Sk.inj I hl hqx]; exact hx, fun l hl => by rw [Sk.inj I hl hqy]; exact hy⟩, ⟨z'', ?_, ⟨u, u2, ?_⟩, ?_, ?_⟩, fun c hcm => ?_⟩
    · exact (sb.2 _ S.TIz).trans (hk _ _ S.TIz S.TITO S.TIi1 S.TIi2 hTI)
    · exact (sb.2 _ S.TOz).trans TO'
    · exact Sk.at_keep (bk1 _ _ h1') fun o q => (sb.2 _ (fun e => S.zi1 e.symm)).trans q
    · exact Sk.at_keep (bk2 _ _ h2') fun o q => (sb.2 _ (fun e => S.zi2 e.symm)).trans q
    · have hlt : c < s.heap.objs.size := by
        have e' : c = z ∨ c = TI ∨ c = TO ∨ c = i1 ∨ c = i2 := by simpa using hcm
        rcases e' with q | q | q | q | q
        · rw [q]; exact hzl
        · rw [q]; exact Heap.lt_size hTI
        · rw [q]; exact Heap.lt_size hTO
        · rw [q]; obtain ⟨_, e1, _⟩ := (Sk.at_obj h1); exact Heap.lt_size e1
        · rw [q]; obtain ⟨_, e2, _⟩ := (Sk.at_obj h2); exact Heap.lt_size e2
      rw [upd_ne (Nat.ne_of_lt hlt)]
      exact (hf c hcm).1
  done := by
    intro X hP hw hK hc i pins s σ H E I hf st hg
    subst hP hw hK
    obtain ⟨hz, hTI, ⟨x0, y0, hTO⟩, h1, h2⟩ := st
    obtain ⟨xs, ys, hqx, hqy, le1, le2, hend⟩ := hg
    obtain ⟨m1, P1, St1, D1, e1, st1, bk1, vl1⟩ := Sk.draws I hc hqx h1 n1
    obtain ⟨m2, P2, St2, D2, e2, st2, bk2, vl2⟩ := Sk.draws I hc hqy h2 n2
    subst e1 e2
    exact wpAny_pyNext_zipD2_end S D1 D2 hz hTI hTO st1 st2 le1 le2 hend fun h' tk hk => ⟨rfl, I.turnedL (t' := tk) (ch := [z, TI, TO, i1, i2]) (fun c o hb q =>
      hk c o (fun q' => hb (by simp [q'])) (fun q' => hb (by simp [q'])) (fun q' => hb (by simp [q'])) (fun q' => hb (by simp [q'])) q) hf⟩
  self := fun A i s Q E st h => wpAny_pyIter_zip st.1 h
def iZipS (K : PySem.W.Frag) (ta : TA) : TI := fun σ H R => ta σ H fun vs H1 => ∃ (a b : Sk) (xs ys : List V), vs = [a.v, b.v] ∧ a.has K H1 xs ∧ b.has K H1 ys ∧ R (ItzS K a b) H1
theorem zip_sep {n : Nat} {p q : List Addr} (hp : ∀ b ∈ p, b < n) (hq : ∀ b ∈ q, b < n) : ZipSep2 (n + 4) (n + 2) (n + 3) n (n + 1) (n :: p) ((n + 1) :: q) where
  TIz := by show n + 2 ≠ n + 4; omega
  TOz := by show n + 3 ≠ n + 4; omega
  TITO := by show n + 2 ≠ n + 3; omega
  TIi1 := by show n + 2 ≠ n; omega
  mem1 := List.mem_cons_self ..
  zf1 := fun h => by
    rcases List.mem_cons.mp h with e | e
    · have : n + 4 = n := e; omega
    · have := hp _ e; have : n + 4 < n := this; omega
  Tf1 := fun h => by
    rcases List.mem_cons.mp h with e | e
    · have : n + 3 = n := e; omega
    · have := hp _ e; have : n + 3 < n := this; omega
  TIi2 := by show n + 2 ≠ n + 1; omega
  mem2 := List.mem_cons_self ..
  zf2 := fun h => by
    rcases List.mem_cons.mp h with e | e
    · have : n + 4 = n + 1 := e; omega
    · have := hq _ e; have : n + 4 < n := this; omega
  Tf2 := fun h => by
    rcases List.mem_cons.mp h with e | e
    · have : n + 3 = n + 1 := e; omega
    · have := hq _ e; have : n + 3 < n := this; omega
  sep1_2 := fun h => by
    rcases List.mem_cons.mp h with e | e
    · have : n = n + 1 := e; omega
    · have := hq _ e; have : n < n := this; omega
  sep2_1 := fun h => by
    rcases List.mem_cons.mp h with e | e
    · have : n + 1 = n := e; omega
    · have := hp _ e; have : n + 1 < n := this; omega
theorem pi_zipS {X : Cx} {e e2 : Expr} {ta : TA} {p pos tpos : Pos} {elts : List Expr} {kk : Nat} (hg : Gl X "zip") (hm : X.mg "zip" = none) (ha : PA X [e, e2] ta)
    (hs : starEach [e, e2] X.env = (false, eval e X.env) :: starEach [e2] X.env := by rfl) (hpl : (backTo pos (starEach [e2] X.env)).any (·.1) = false := by rfl) :
    PI X (.Tuple elts kk tpos) (.Call (.Name "zip" p) [e, e2] [] pos) (iZipS X.K ta) := by
  refine ⟨fun pins s σ H R I h => ?_⟩
  refine Call_ (ld_blt I hg hm PyProof.Rows.boot_zip (PyProof.Rows.callWith_type1 (thn (ha.run pos pins s σ H _ I h) fun us s1 ⟨vs, H1, I1, r1, q1⟩ => ?_) hs hpl))
  obtain ⟨a, b, xs, ys, ex, hqx, hqy, q⟩ := q1
  subst ex
  cases r1 with
  | cons r rr =>
    cases rr with
    | cons r' rr =>
      cases rr
      have fresh5 : ∀ c, c ∈ [s1.heap.objs.size + 4, s1.heap.objs.size + 2, s1.heap.objs.size + 3, s1.heap.objs.size, s1.heap.objs.size + 1] → FpOk X pins H1 c := fun c hcm => by
        have e' : c = s1.heap.objs.size + 4 ∨ c = s1.heap.objs.size + 2 ∨ c = s1.heap.objs.size + 3 ∨ c = s1.heap.objs.size ∨ c = s1.heap.objs.size + 1 := by simpa using hcm
        have hle : s1.heap.objs.size ≤ c := by
          rcases e' with z | z | z | z | z
          · rw [z]; exact Nat.le_add_right _ _
          · rw [z]; exact Nat.le_add_right _ _
          · rw [z]; exact Nat.le_add_right _ _
          · rw [z]; exact Nat.le_refl _
          · rw [z]; exact Nat.le_add_right _ _
        exact I1.fpOk hle (I1.hok.fresh hle)
      obtain ⟨o1, G1, B1, g1, at1, lt1⟩ := Sk.begins I1 hqx r
      obtain ⟨o2, G2, B2, g2, at2, lt2⟩ := Sk.begins I1 hqy r'
      refine zip_begins2 B1 B2 g1 g2 fun h' hz hTI hTO h1 h2 hsz hk => wpAny_pyIter_zip hz ?_
      have I2 : Inv X pins σ H1 { s1 with heap := h' } := I1.kept (t' := s1.toks) hk
      exact ⟨s1.heap.objs.size + 4, [s1.heap.objs.size + 4, s1.heap.objs.size + 2, s1.heap.objs.size + 3, s1.heap.objs.size, s1.heap.objs.size + 1], _, _, H1, rfl, I2,
        turn_zipS (zip_sep lt1 lt2) (fun h => Nat.lt_irrefl _ (lt1 _ h)) (fun h => absurd (lt2 _ h) (Nat.not_lt.mpr (Nat.le_add_right _ 1))), ⟨hz, hTI, ⟨_, _, hTO⟩, at1 _ _ h1, at2 _ _ h2⟩, fresh5, q⟩
/-- the things of a list, a tuple, a text -/
def itD : D → Option (List D)
  | .tup l => some l
  | .lst l => some l
  | .scr l => some (l.map D.int)
  | .str z => some (z.cps.toList.map fun c => .str ⟨#[c]⟩)
  | _ => none
def pair2 (p : D × D) : D := .tup [p.1, p.2]
def dZip (da : DA) : DI := fun xc r P => da xc r fun ds => match ds with
  | [x, y] => onO (itD x) fun a => onO (itD y) fun b => P ((a.zip b).map pair2)
  | _ => False
theorem sk_of {K : PySem.W.Frag} {B : Hp} {v : V} {d : D} {l : List D} (r : Rep K B v d) (e : itD d = some l) : ∃ k : Sk, v = k.v ∧ ∃ vs, (∀ H, Kp B H → k.has K H vs) ∧ RepL K B vs l := by
  cases r with
  | tup h rl => cases e; exact ⟨.t _, rfl, _, fun H k => kp_t k h, rl⟩
  | lst h rl => cases e; exact ⟨.l _, rfl, _, fun H k => .inl (.inl ((k _ _ h).1 DrawO.lst)), rl⟩
  | scr h => cases e; exact ⟨.l _, rfl, _, fun H k => kp_l k h, RepL.ints _⟩
  | str y =>
    cases e
    refine ⟨.s y, rfl, _, fun H k => rfl, ?_⟩
    have g : ∀ cs : List Nat, RepL K B (cs.map fun c => V.str ⟨#[c]⟩) (cs.map fun c => D.str ⟨#[c]⟩) := by
      intro cs
      induction cs with
      | nil => exact .nil
      | cons c cs ih => exact .cons (.str _) ih
    exact g _
  | _ => cases e
theorem zip_get {α β : Type} : ∀ (xs : List α) (ys : List β) (i : Nat) (p : α × β), (xs.zip ys)[i]? = some p → xs[i]? = some p.1 ∧ ys[i]? = some p.2
  | [], _, i, p, h => by simp at h
  | _ :: _, [], i, p, h => by simp at h
  | x :: xs, y :: ys, 0, p, h => by
    simp at h
    subst h
    exact ⟨rfl, rfl⟩
  | x :: xs, y :: ys, i + 1, p, h => by
    have := zip_get xs ys i p (by simpa using h)
    simpa using this
section
variable {X : Cx} {W : WX}
theorem qi_zip {e e2 : Expr} {da : DA} {p pos tpos : Pos} {elts : List Expr} {kk : Nat} (hg : Gl X "zip") (hm : X.mg "zip" = none) (ha : PA X [e, e2] (LA X.K W da))
    (hs : starEach [e, e2] X.env = (false, eval e X.env) :: starEach [e2] X.env := by rfl) (hpl : (backTo pos (starEach [e2] X.env)).any (·.1) = false := by rfl) :
    PI X (.Tuple elts kk tpos) (.Call (.Name "zip" p) [e, e2] [] pos) (LI X.K W (dZip da)) := by
  refine imI (pi_zipS hg hm ha hs hpl) fun s H R ⟨B, r, xc, P, k, en, h, hx, hq⟩ => ⟨B, r, xc, _, k, en, h, hx, fun vs ds H1 B1 z rl q => ?_⟩
  split at q
  · rename_i dx dy
    obtain ⟨a, ea, q⟩ := onO_elim q
    obtain ⟨b, eb, q⟩ := onO_elim q
    cases rl with
    | cons rx rl =>
      cases rl with
      | cons ry rl =>
        cases rl
        obtain ⟨k1, e1, v1, h1, r1⟩ := sk_of rx ea
        obtain ⟨k2, e2, v2, h2, r2⟩ := sk_of ry eb
        subst e1 e2
        refine ⟨k1, k2, v1, v2, rfl, h1 _ z.sub, h2 _ z.sub, hq _ _ H1 B1 (fun _ => False) z (fun _ w => w.elim) ?_ q⟩
        intro B2 H2 i kb kh _
        have g1 := h1 H2 (kb.trans kh)
        have g2 := h2 H2 (kb.trans kh)
        have l1 := r1.length
        have l2 := r2.length
        refine ⟨fun d hd => ?_, fun hle => ?_⟩
        · rw [List.getElem?_map] at hd
          obtain ⟨pr, hp, e⟩ := Option.map_eq_some_iff.mp hd
          subst e
          obtain ⟨ha, hb⟩ := zip_get _ _ _ _ hp
          obtain ⟨x, hx, rx2⟩ := r1.get ha
          obtain ⟨y, hy, ry2⟩ := r2.get hb
          refine ⟨⟨v1, v2, x, y, g1, g2, hx, hy⟩, fun v H3 yl => ?_⟩
          obtain ⟨T, x', y', rfl, hT, rfl, f1, f2⟩ := yl
          have fx := f1 v1 g1
          have fy := f2 v2 g2
          rw [hx] at fx
          cases fx
          rw [hy] at fy
          cases fy
          refine ⟨_, .new kh hT, .tup (.inl (.inl upd_same)) (.cons (rx2.mono (kb.trans (Kp.new (kh.none hT)))) (.cons (ry2.mono (kb.trans (Kp.new (kh.none hT)))) .nil))⟩
        · rw [List.length_map, List.length_zip] at hle
          exact ⟨v1, v2, g1, g2, by omega, by omega, by omega⟩
  · exact q.elim
end
end Dl
/-! Dl10: dicts read and written, items stored, == with an empty thing. -/
namespace Dl
open PySem PySem.Spec PyProof.Rows L2
section
variable {X : Cx} {W : WX}
/-! ### d.get(k), d.get(k, x) -/
def asDic (P : List (Key × D) → Prop) : D → Prop
  | .dic l => P l
  | _ => False
theorem asDic_elim {P : List (Key × D) → Prop} {d : D} (h : asDic P d) : ∃ b, d = .dic b ∧ P b := by
  cases d <;> first | exact ⟨_, rfl, h⟩ | exact h.elim
/-- the value, else y -/
def getP (o : Option D) (y : Val) (P : Val → Prop) : Prop := match o with
  | some d => P (.dat d)
  | none => P y
def dGet2 (dd dk de : DE) : DE := fun xc r P => dd xc r fun x => asDic (fun kds => dk xc r fun k => de xc r fun y => onO (keyD k.d) fun q => getP (valD kds q) y P) x.d
def dGet1 (dd dk : DE) : DE := fun xc r P => dd xc r fun x => asDic (fun kds => dk xc r fun k => onO (keyD k.d) fun q => getP (valD kds q) (.dat .non) P) x.d
theorem rv_dic_same {K : PySem.W.Frag} {B H : Hp} {a : Addr} {x : Val} {ds : List (Key × D)} (k : Kp B H) (r : RepV K B H (.ref a) x) (e : x.d = .dic ds) : ∃ kvs, H a = some (.dK kvs) ∧ RepK K B kvs ds := by
  obtain ⟨b, kvs, e2, h, r⟩ := rv_dic k r e
  cases e2
  exact ⟨kvs, h, r⟩
theorem q_dget2 {o e f : Expr} {apos cpos : Pos} {dd dk de : DE} {f1 f2 : Bool} (hu : X.A.units + 1 < cLine) (ho : PE X o (L X.K W f1 dd)) (he : PE X e (L X.K W f2 dk)) (hf : PE X f (L X.K W true de)) (m : M2 X o "get" apos e f cpos) :
    PE X (.Call (.Attribute o "get" apos) [e, f] [] cpos) (L X.K W true (dGet2 dd dk de)) := by
  refine imE (pe_dget2 hu ho he hf m) fun s H Q ⟨B, r, xc, P, k, en, h, hx, hq⟩ => ⟨B, r, xc, _, k, en, h, hx, fun x vx H1 B1 z1 rx _ q1 => ?_⟩
  obtain ⟨kds, ed, q1⟩ := asDic_elim q1
  obtain ⟨a, kvs, rfl, hv, rk⟩ := rv_dic z1.sub rx ed
  refine ⟨a, rfl, .inl ⟨kvs, .inl hv⟩, B1, r, xc, _, z1.sub, en.step z1, q1, fun cls d e H' B' st => hx cls d e H' B' (z1.trans st), fun y vy H2 B2 z2 ry _ q2 => ?_⟩
  have z12 := z1.trans z2
  refine ⟨B2, r, xc, _, z2.sub, en.step z12, q2, fun cls d e H' B' st => hx cls d e H' B' (z12.trans st), fun w vw H3 B3 z3 rw_ fw q3 => ?_⟩
  have z := z12.trans z3
  obtain ⟨q, ek, q3⟩ := onO_elim q3
  have ey := key_v (ry.step z3) ek
  subst ey
  obtain ⟨kvs3, hv3, rk3⟩ := rv_dic_same z3.sub ((rx.step z2).step z3) ed
  unfold getP at q3
  cases ev : valD kds q with
  | some d =>
    rw [ev] at q3
    obtain ⟨v, e1, r1⟩ := rk3.val ev
    exact ⟨some v, by rw [← e1]; exact DGet.k hv3, hq v (.dat d) H3 B3 z r1 (fun _ => Fr.dat) q3⟩
  | none =>
    rw [ev] at q3
    exact ⟨none, by rw [← rk3.val_none ev]; exact DGet.k hv3, hq w vw H3 B3 z rw_ (fun _ => ((fw rfl).back z2).back z1) q3⟩
theorem q_dget1 {o e : Expr} {apos cpos : Pos} {dd dk : DE} {f1 f2 : Bool} (hu : X.A.units + 1 < cLine) (ho : PE X o (L X.K W f1 dd)) (he : PE X e (L X.K W f2 dk)) (m : M1 X o "get" apos e cpos) :
    PE X (.Call (.Attribute o "get" apos) [e] [] cpos) (L X.K W true (dGet1 dd dk)) := by
  refine imE (pe_dget1 hu ho he m) fun s H Q ⟨B, r, xc, P, k, en, h, hx, hq⟩ => ⟨B, r, xc, _, k, en, h, hx, fun x vx H1 B1 z1 rx _ q1 => ?_⟩
  obtain ⟨kds, ed, q1⟩ := asDic_elim q1
  obtain ⟨a, kvs, rfl, hv, rk⟩ := rv_dic z1.sub rx ed
  refine ⟨a, rfl, .inl ⟨kvs, .inl hv⟩, B1, r, xc, _, z1.sub, en.step z1, q1, fun cls d e H' B' st => hx cls d e H' B' (z1.trans st), fun y vy H2 B2 z2 ry _ q2 => ?_⟩
  have z := z1.trans z2
  obtain ⟨q, ek, q3⟩ := onO_elim q2
  have ey := key_v ry ek
  subst ey
  obtain ⟨kvs3, hv3, rk3⟩ := rv_dic_same z2.sub (rx.step z2) ed
  unfold getP at q3
  cases ev : valD kds q with
  | some d =>
    rw [ev] at q3
    obtain ⟨v, e1, r1⟩ := rk3.val ev
    exact ⟨some v, by rw [← e1]; exact DGet.k hv3, hq v (.dat d) H2 B2 z r1 (fun _ => Fr.dat) q3⟩
  | none =>
    rw [ev] at q3
    exact ⟨none, by rw [← rk3.val_none ev]; exact DGet.k hv3, hq _ (.dat .non) H2 B2 z .non (fun _ => Fr.dat) q3⟩
theorem m2_of {o e f : Expr} {m : Str} {apos cpos : Pos} (base : attributeBase o m X.env (eval o X.env) = eval o X.env := by rfl)
    (few : ((backTo cpos (starEach [e, f] X.env)).all (fun x => !x.1) && (backToKw cpos (keywordEach [] X.env)).all (fun x => x.1.isSome) && decide (([e, f] : List Expr).length + ([] : List Keyword).length + (if ([] : List Keyword).isEmpty then 0 else 1) < 30)) = true := by rfl)
    (line : (apos.endLine == cpos.line) = true := by rfl) (trees : backTo cpos (starEach [e, f] X.env) = [(false, eval e X.env), (false, eval f X.env)] := by rfl) : M2 X o m apos e f cpos := ⟨base, few, line, trees⟩
theorem m1_of {o e : Expr} {m : Str} {apos cpos : Pos} (base : attributeBase o m X.env (eval o X.env) = eval o X.env := by rfl)
    (few : ((backTo cpos (starEach [e] X.env)).all (fun x => !x.1) && (backToKw cpos (keywordEach [] X.env)).all (fun x => x.1.isSome) && decide (([e] : List Expr).length + ([] : List Keyword).length + (if ([] : List Keyword).isEmpty then 0 else 1) < 30)) = true := by rfl)
    (line : (apos.endLine == cpos.line) = true := by rfl) (trees : backTo cpos (starEach [e] X.env) = [(false, eval e X.env)] := by rfl) : M1 X o m apos e cpos := ⟨base, few, line, trees⟩
/-! ### a written dict of texts: C[k], C.get(k, x), k in C -/
/-- the dict's rows -/
def tabV (tbl : List (Str × D)) (z : Str) : Option D := (tbl.find? fun kv => decide (kv.1 = z)).map (·.2)
def entOk (u : Value) (d : D) : Bool := match u, d with
  | .int i _, .int j => i == j
  | .str x _, .str y => x == y
  | .bool x, .bl y => x == y
  | .none, .non => true
  | _, _ => false
def keyOk (u : Value) (k : Str) : Bool := match u with
  | .str x _ => x == k
  | _ => false
def entsOk : List DictEntry → List (Str × D) → Bool
  | [], [] => true
  | e :: es, (k, d) :: r => keyOk e.key k && entOk e.val d && entsOk es r
  | _, _ => false
theorem keyOk_str {u : Value} {k : Str} (h : keyOk u k = true) : ∃ t, u = .str k t := by
  unfold keyOk at h
  split at h
  · rename_i x t
    have e : x = k := by simpa using h
    subst e
    exact ⟨t, rfl⟩
  · cases h
structure KTab (K : PySem.W.Frag) (w : World) (a : Addr) (tbl : List (Str × D)) : Prop where
  ex : ∃ es n, K.lookup a = some ⟨.type "dict", none, .dict es n, #[]⟩ ∧ PySem.W.KeysLit w.params es.toList ∧ entsOk es.toList tbl = true
  low : (a == sysModules) = false
theorem entOk_flat {u : Value} {d : D} (h : entOk u d = true) : flatD d = true ∧ RelV (dV d) u := by
  unfold entOk at h
  split at h
  · rename_i i t j
    have e : i = j := by simpa using h
    subst e
    exact ⟨rfl, _, rfl⟩
  · rename_i i t j
    have e : i = j := by simpa using h
    subst e
    exact ⟨rfl, _, rfl⟩
  · rename_i i j
    have e : i = j := by simpa using h
    subst e
    exact ⟨rfl, rfl⟩
  · exact ⟨rfl, rfl⟩
  · cases h
theorem ents_find {z : Str} : ∀ {es : List DictEntry} {tbl : List (Str × D)}, entsOk es tbl = true → (match tabV tbl z with
  | some d => ∃ e, es.find? (fun d => Value.isStrOf z d.key) = some e ∧ entOk e.val d = true
  | none => es.find? (fun d => Value.isStrOf z d.key) = none)
  | [], [], _ => rfl
  | [], _ :: _, h => nomatch h
  | _ :: _, [], h => nomatch h
  | e :: es, (k, d) :: r, h => by
    unfold entsOk at h
    obtain ⟨h1, hr⟩ := Bool.and_eq_true_iff.mp h
    obtain ⟨hk, hv⟩ := Bool.and_eq_true_iff.mp h1
    obtain ⟨t, hk⟩ := keyOk_str hk
    have ih := ents_find (z := z) hr
    by_cases c : k = z
    · subst c
      have e1 : tabV ((k, d) :: r) k = some d := by simp [tabV]
      rw [e1]
      refine ⟨e, ?_, hv⟩
      rw [List.find?_cons, hk]
      have : Value.isStrOf k (.str k t) = true := by simp [Value.isStrOf]
      rw [this]
    · have e1 : tabV ((k, d) :: r) z = tabV r z := by simp [tabV, List.find?_cons, c]
      rw [e1]
      have e2 : (e :: es).find? (fun d => Value.isStrOf z d.key) = es.find? (fun d => Value.isStrOf z d.key) := by
        rw [List.find?_cons, hk]
        have : Value.isStrOf z (.str k t) = false := by simp [Value.isStrOf, c]
        rw [this]
      rw [e2]
      exact ih
theorem KTab.find {tbl : List (Str × D)} {es : Array DictEntry} (h : entsOk es.toList tbl = true) (z : Str) : (match tabV tbl z with
  | some d => ∃ u, findBy Value.isStrOf es z = some u ∧ entOk u d = true
  | none => findBy Value.isStrOf es z = none) := by
  have q := ents_find (z := z) h
  obtain ⟨l⟩ := es
  unfold findBy
  cases e : tabV tbl z with
  | some d =>
    rw [e] at q
    obtain ⟨en, h1, h2⟩ := q
    refine ⟨en.val, ?_, h2⟩
    rw [List.find?_toArray]
    rw [show l.find? (fun d => Value.isStrOf z d.key) = some en from h1]
    rfl
  | none =>
    rw [e] at q
    show Option.map _ (Array.find? _ _) = none
    rw [List.find?_toArray]
    rw [show l.find? (fun d => Value.isStrOf z d.key) = none from q]
    rfl
def dKGet (tbl : List (Str × D)) (dk de : DE) : DE := fun xc r P => dk xc r fun k => de xc r fun y => asS (fun z => getP (tabV tbl z) y P) k.d
theorem q_kget {x : Str} {e f : Expr} {p apos cpos : Pos} {a : Addr} {tbl : List (Str × D)} {dk de : DE} {f2 : Bool} (T : KTab X.K X.w a tbl) (hg : Gl X x) (hm : X.mg x = some (.ref a)) (he : PE X e (L X.K W f2 dk)) (hf : PE X f (L X.K W true de))
    (m : M2 X (.Name x p) "get" apos e f cpos) (hd : (x == ("__debug__" : Str)) = false := by decide) : PE X (.Call (.Attribute (.Name x p) "get" apos) [e, f] [] cpos) (L X.K W true (dKGet tbl dk de)) := by
  obtain ⟨⟨es, n, hl, hk, hen⟩, low⟩ := T
  refine ⟨fun pins s σ H Q I ⟨B, r, xc, P, k, en, h, hx, hq⟩ => ?_⟩
  refine wpAny_Call_method m.base m.few m.line PySem.F.plainAttrs_dict PySem.F.slot_dict_get PySem.F.type_dict_get (thn ((pe_glob (v := .ref a) hg hm rfl hd).run pins s σ H (fun v H' => v = .ref a ∧ H' = H) I ⟨rfl, rfl⟩) fun u s1 ⟨x, H1, I1, rx, ex, eh⟩ => ?_)
  subst ex eh
  obtain rfl : u = Value.ref a := rx
  have hm1 := PySem.W.mapOf_K (prog := X.prog) (w := X.w) I1.kIn hl hk
  refine ⟨hm1.typeIs, fun b q => ?_, ?_⟩
  · cases q
    exact ⟨_, I1.kIn _ _ hl, rfl⟩
  rw [m.trees]
  refine Calls.callWith_builtin rfl (Calls.evalArgs_plain (Calls.spliced_cons (thn (he.run pins s1 σ H1 (fun y H2 => ∃ B2 vy, Step B H1 B2 H2 ∧ RepV X.K B2 H2 y vy ∧ de xc r fun w => asS (fun z => getP (tabV tbl z) w P) vy.d) I1 ⟨B, r, xc, _, k, en, h, hx, fun y vy H2 B2 z2 ry _ q2 => ⟨B2, vy, z2, ry, q2⟩⟩) fun iv s2 ⟨y, H2, I2, ry, B2, vy, z2, ryv, q2⟩ => ?_)))
  refine Calls.spliced_cons (thn (hf.run pins s2 σ H2 (fun w H3 => ∃ B3 vw, Step B2 H2 B3 H3 ∧ RepV X.K B3 H3 w vw ∧ Fr H2 w vw ∧ asS (fun z => getP (tabV tbl z) vw P) vy.d) I2 ⟨B2, r, xc, _, z2.sub, en.step z2, q2, fun cls d e H' B' st => hx cls d e H' B' (z2.trans st), fun w vw H3 B3 z3 rw_ fw q3 => ⟨B3, vw, z3, rw_, fw rfl, q3⟩⟩) fun fv s3 ⟨w, H3, I3, rz, B3, vw, z3, rww, fw, q3⟩ => Calls.spliced_nil ?_)
  obtain ⟨z, ez, q3⟩ := asS_elim q3
  have ey := rv_str ryv ez
  subst ey
  obtain ⟨t, rfl⟩ := ry
  have hm3 := PySem.W.mapOf_K (prog := X.prog) (w := X.w) I3.kIn hl hk
  have hz := z2.trans z3
  refine call_meetsIn PySem.F.slot_dict_get hm3.typeIs PySem.F.entry_dict_get (PySem.F.args_dict_get_3 _ _ _) (meets_dict_get_default (strKind X.prog X.w) a (strKind_is X.prog X.w z t) low fv) ⟨_, hm3, ?_⟩
  have fd := KTab.find hen z
  unfold getP at q3
  cases ev : tabV tbl z with
  | some d =>
    rw [ev] at q3 fd
    obtain ⟨u, h1, h2⟩ := fd
    obtain ⟨h3, h4⟩ := entOk_flat h2
    rw [show findBy Value.isStrOf es z = some u from h1]
    exact ⟨_, H3, I3.tok _, h4, hq _ (.dat d) H3 B3 hz (rep_flat h3) (fun _ => Fr.dat) q3⟩
  | none =>
    rw [ev] at q3 fd
    rw [show findBy Value.isStrOf es z = none from fd]
    exact ⟨_, H3, I3.tok _, rz, hq _ vw H3 B3 hz rww (fun _ => fw.back z2) q3⟩
/-! ### d.update(e) -/
def rUpdate : V → List V → Hp → VK → Prop := fun x vs H Q => ∃ d o kvs more, x = .ref d ∧ vs = [.ref o] ∧ H d = some (.dK kvs) ∧ H o = some (.dK more) ∧ d ≠ o ∧ kvs.length + more.length ≤ sizeLine ∧ Q .non (upd H d (.dK (mergeK kvs more)))
theorem len_merge : ∀ (more kvs : List (Key × V)), (mergeK kvs more).length ≤ kvs.length + more.length
  | [], kvs => by show kvs.length ≤ _; omega
  | p :: more, kvs => by
    have h := len_merge more (putK kvs p.1 p.2)
    have h2 := length_putK kvs p.1 p.2
    show (mergeK (putK kvs p.1 p.2) more).length ≤ _
    rw [List.length_cons]
    omega
theorem mt_update : MtM X "dict.update" rUpdate := by
  intro pins s σ H x vs v us Q I rx rv h
  obtain ⟨d, o, kvs, more, rfl, rfl, hd, ho, hne, hz, q⟩ := h
  cases rx
  obtain ⟨u, rfl, ru⟩ := rv.one
  cases ru
  obtain ⟨z1, hd1, vs1, rel1, dd1⟩ := dk_of I.hok hd
  obtain ⟨z2, hd2, vs2, rel2, dd2⟩ := dk_of I.hok ho
  refine call_meetsIn PySem.F.slot_dict_update dd1.typeIs PySem.F.entry_dict_update (PySem.F.args_dict_update_2 _ _) (meets_dict_update (mixKind X.prog X.w) d o hne hd2)
    ⟨vs1, vs2, dd1, dd2, by rw [← rel1.length, ← rel2.length]; exact hz, fun h' hmm _ hs => ?_⟩
  have he : ∃ q, h'.get? d = some q := let ⟨q, _, _, hq, _⟩ := hmm; ⟨q, hq⟩
  exact ⟨.non, _, d_write (t' := s.toks) I (by rw [hd]; exact True.intro) hs he (dk_new (Nat.le_trans (len_merge more kvs) hz) hd1 (KV.merge rel2 rel1) hmm), rfl, q⟩
theorem RepK.length {K : PySem.W.Frag} {B : Hp} : ∀ {a : List (Key × V)} {b : List (Key × D)}, RepK K B a b → a.length = b.length
  | _, _, .nil => rfl
  | _, _, .cons _ r => congrArg (· + 1) (RepK.length r)
def dUpdate (i : Nat) (de : DE) : DS := fun xc E r => match lk r i with
  | some (.tmp (.dic l)) => de xc r fun x => asDic (fun m => l.length + m.length ≤ sizeLine ∧ E.nx (st r i (some (.tmp (.dic (mergeD l m)))))) x.d
  | _ => False
theorem qs_update {i : Nat} {x : Str} {e : Expr} {de : DE} {p1 p2 p3 pos : Pos} (he : PE X e (L X.K W true de))
    (h : PE X (.Call (.Attribute (.Name x p1) "update" p2) [e] [] p3) (tBM X.K "dict" rUpdate (tVar i) (tCons (L X.K W true de) tNil)))
    (hs : swapsWith (.Call (.Attribute (.Name x p1) "update" p2) [e] [] p3) none pos.line X.env = pure false := by rfl) : PS X (.Expr (.Call (.Attribute (.Name x p1) "update" p2) [e] [] p3) pos) (LS X.K W (dUpdate i de)) := by
  refine imS (ps_expr h hs) fun E s H ⟨B, r, xc, De, k, en, h, hx, nx, bk, ct, rt⟩ => ?_
  unfold dUpdate at h
  split at h
  · rename_i l hl
    obtain ⟨p, hp, n, w⟩ := own_at en hl
    obtain ⟨kvs, hv, rl⟩ := id w
    refine ⟨.ref p, hp, .inr (.inr (.inl ⟨rfl, .inl ⟨_, hv⟩⟩)), ?_⟩
    refine ⟨B, r, xc, _, k, en, h, fun cls d e H' B' z => hx cls d e s r H' B' z.s (en.step z), fun v x H1 B1 z rv fr q => ?_⟩
    obtain ⟨m, em, hlen, q⟩ := asDic_elim q
    obtain ⟨a, more, rfl, hm, rm⟩ := rv_dic z.sub rv em
    have hv1 := z.out p _ hv n
    have rl1 := RepK.mono z.kp rl
    have ne : p ≠ a := fun e => by
      subst e
      cases x with
      | dat d =>
        cases (show d = .dic m from em)
        cases rv with
        | dic hb _ _ => rw [hv1.2] at hb; cases hb
      | tmp c =>
        have := fr rfl p c rfl rfl
        rw [hv] at this
        cases this
    obtain ⟨en2, z2⟩ := own_write (o := .dK (mergeK kvs more)) (c' := .dic (mergeD l m)) z.sub (en.step z) hl hp hv1.2 ⟨_, upd_same, RepK.merge rm rl1⟩
    exact ⟨p, a, kvs, more, rfl, rfl, hv1.1, hm, ne, by rw [RepK.length rl1, RepK.length rm]; exact hlen, nx _ _ _ _ (z.s.trans z2) en2 q⟩
  · exact h.elim
/-! ### x[i] = e, x a local that owns its list or dict -/
def putC (d : D) (P : Ct → Prop) : Ct → D → Prop
  | .lst l, .int j => onO (ixN l.length j) fun n => P (.lst (l.set n d))
  | .dic l, k => onO (keyD k) fun q => l.length < sizeLine ∧ P (.dic (putD l q d))
  | _, _ => False
def dPutI (i : Nat) (dk de : DE) : DS := fun xc E r => match lk r i with
  | some (.tmp c) => de xc r fun v => asD (fun d => dk xc r fun k => putC d (fun c' => E.nx (st r i (some (.tmp c')))) c k.d) v
  | _ => False
theorem set_own (hu : X.A.units + 1 < cLine) : PSet X (fun o i v H Q => rSetL o i v H Q ∨ rSetD o i v H Q) := fun pins s σ H o i v ov iv u Q I ro ri rv h =>
  h.elim (set_list pins s σ H o i v ov iv u Q I ro ri rv) (set_dict hu pins s σ H o i v ov iv u Q I ro ri rv)
theorem qs_put (i : Nat) {x : Str} {e j : Expr} {p1 pos pos' : Pos} {dk de : DE} {f2 : Bool} (hu : X.A.units + 1 < cLine) (hx : PE X (.Name x p1) (tVar i)) (hk : PE X j (L X.K W f2 dk)) (he : PE X e (L X.K W true de))
    (ha : ∀ v, assign (.Subscript (.Name x p1) j pos') X.env v = (do
      let ov ← holding [v] (eval (.Name x p1) X.env)
      let iv ← holding [v, ov] (eval j X.env)
      standAt pos'
      holding [v, ov, iv] (setItem ov iv v)
      release [v, ov, iv] []) := by intro _; rfl)
    (hs : swapsWithSole [.Subscript (.Name x p1) j pos'] e pos.line X.env = pure false := by rfl) (hw : swappedStores [.Subscript (.Name x p1) j pos'] e X.env = pure none := by rfl)
    (h1 : (assignEach [.Subscript (.Name x p1) j pos'] X.env).map (·.2) = [assign (.Subscript (.Name x p1) j pos') X.env] := by rfl) :
    PS X (.Assign [.Subscript (.Name x p1) j pos'] e pos) (LS X.K W (dPutI i dk de)) := by
  refine imS (ps_asg he (pg_sub hx hk (set_own hu) ha) hs hw h1) fun E s H ⟨B, r, xc, De, k, en, h, hx, nx, bk, ct, rt⟩ => ?_
  unfold dPutI at h
  split at h
  · rename_i c hl
    obtain ⟨p, hp, n, w⟩ := own_at en hl
    refine ⟨B, r, xc, _, k, en, h, fun cls d e H' B' z => hx cls d e s r H' B' z.s (en.step z), fun v x H1 B1 z1 rv fr q => ?_⟩
    cases x with
    | tmp c => exact q.elim
    | dat d =>
      have en1 := en.step z1
      refine ⟨.ref p, hp, B1, r, xc, _, z1.sub, en1, q, fun cls d e H' B' z => hx cls d e s r H' B' (z1.s.trans z.s) (en1.step z), fun y vy H2 B2 z2 ry _ q2 => ?_⟩
      have z := z1.trans z2
      have rv2 : Rep X.K B2 v d := Rep.mono z2.kp rv
      cases c with
      | lst l =>
        obtain ⟨vs, hv, rl⟩ := w
        have hv2 := z.out p _ hv n
        have rl2 := rl.mono z.kp
        unfold putC at q2
        split at q2
        · rename_i l2 j e1 e2
          cases e1
          obtain ⟨m, hm, q2⟩ := onO_elim q2
          have ey := rv_int ry e2
          subst ey
          obtain ⟨en3, z3⟩ := own_write (o := .lst (vs.set m v)) (c' := .lst (l.set m d)) z2.sub (en.step z) hl hp hv2.2 ⟨_, upd_same, rl2.set rv2 m⟩
          exact .inl ⟨p, vs, j, m, rfl, rfl, hv2.1, by rw [rl2.length]; exact hm, nx _ _ _ _ (z.s.trans z3) en3 q2⟩
        · rename_i e1
          cases e1
        · exact q2.elim
      | dic l =>
        obtain ⟨kvs, hv, rl⟩ := w
        have hv2 := z.out p _ hv n
        have rl2 := RepK.mono z.kp rl
        obtain ⟨kq, ek, hlen, q2⟩ := onO_elim (o := keyD vy.d) q2
        have ey := key_v ry ek
        subst ey
        obtain ⟨en3, z3⟩ := own_write (o := .dK (putK kvs kq v)) (c' := .dic (putD l kq d)) z2.sub (en.step z) hl hp hv2.2 ⟨_, upd_same, RepK.put rv2 rl2⟩
        exact .inr ⟨p, _, rfl, DPut.k hv2.1 (by rw [RepK.length rl2]; exact hlen), nx _ _ _ _ (z.s.trans z3) en3 q2⟩
  · exact h.elim
/-! ### == () and == [] -/
def rEqE (K : PySem.W.Frag) : R2 := fun x y H Q => ∃ a b xs ys, x = .ref a ∧ y = .ref b ∧ ys = [] ∧ ((SqT K H a xs ∧ SqT K H b ys) ∨ (SqL K H a xs ∧ SqL K H b ys)) ∧ Q (.bl xs.isEmpty) H
theorem op_eqE (hu : X.A.units + 64 < cLine) : OpR X (compareOp .Eq) (rEqE X.K) := by
  intro pins s σ H x y v u Q I rx ry h
  obtain ⟨a, b, xs, ys, rfl, rfl, rfl, h, q⟩ := h
  cases rx
  cases ry
  rcases h with ⟨h1, h2⟩ | ⟨h1, h2⟩
  · obtain ⟨its, r1, p1, _⟩ := I.tuple h1
    obtain ⟨its2, r2, p2, _⟩ := I.tuple h2
    cases r2
    refine SeqAt.eq_tupleAt (e := fun _ => true) p1 p2 (by omega) (fun j _ h2 => absurd h2 (Nat.not_lt_zero _)) ⟨_, H, I, ?_, q⟩
    cases r1 <;> rfl
  · obtain ⟨its, r1, p1, _⟩ := I.list h1
    obtain ⟨its2, r2, p2, _⟩ := I.list h2
    cases r2
    cases r1 with
    | nil => exact SeqAt.eq_listAt (e := fun _ => true) p1.isList p2.isList rfl (by omega) (fun j _ h2 => absurd h2 (Nat.not_lt_zero _)) ⟨.bl true, H, I, rfl, q⟩
    | cons _ _ => exact SeqAt.eq_list_lengthsAt p1.isList p2.isList rfl (by omega) ⟨.bl false, H, I, rfl, q⟩
def fEqED (P : Val → Prop) : D → D → Prop
  | .tup l, .tup [] => P (.dat (.bl l.isEmpty))
  | .lst l, .lst [] => P (.dat (.bl l.isEmpty))
  | _, _ => False
def fEqE : F2 := fun x y P => fEqED P x.d y.d
theorem rel_eqE : RelR X.K (rEqE X.K) fEqE := by
  intro B H x y vx vy P Q k rx ry h a
  unfold fEqE fEqED at h
  split at h
  · rename_i l e1 e2
    obtain ⟨p, vs, rfl, _, hp, rl⟩ := rv_tup k rx e1
    obtain ⟨p2, vs2, rfl, _, hp2, rl2⟩ := rv_tup k ry e2
    cases rl2
    exact ⟨p, p2, vs, [], rfl, rfl, rfl, .inl ⟨hp, hp2⟩, by rw [rl.isEmpty]; exact a.dat k (.bl _) h⟩
  · rename_i l e1 e2
    obtain ⟨p, vs, rfl, hp, rl⟩ := rv_lst k rx e1
    obtain ⟨p2, vs2, rfl, hp2, rl2⟩ := rv_lst k ry e2
    cases rl2
    exact ⟨p, p2, vs, [], rfl, rfl, rfl, .inr ⟨.inl (.inl hp), .inl (.inl hp2)⟩, by rw [rl.isEmpty]; exact a.dat k (.bl _) h⟩
  · exact h.elim
section
variable {a b : Expr} {pos : Pos} {da db : DE} {fa fb : Bool} (hu : X.A.units + 64 < cLine) (ha : PE X a (L X.K W fa da)) (hb : PE X b (L X.K W fb db))
include hu ha hb
theorem q_eqE : PE X (.Compare a [.Eq] [b] pos) (L X.K W true (dOp fEqE da db)) := q_cmp (op_eqE hu) rel_eqE ha hb (nomark _)
theorem qt_eqE : PT X (.Compare a [.Eq] [b] pos) (LT X.K W (dB (dOp fEqE da db))) := qt_cmp (op_eqE hu) rel_eqE ha hb (nomark _)
end
end
/-! ### equations by which these readings are opened -/
theorem z001 (P : Val → Prop) (l : List D) : (fEqED P (.tup l) (.tup [])) = (P (.dat (.bl l.isEmpty))) := rfl
theorem z002 (P : Val → Prop) (l : List D) : (fEqED P (.lst l) (.lst [])) = (P (.dat (.bl l.isEmpty))) := rfl
theorem z003 (P : List (Key × D) → Prop) (l : List (Key × D)) : (asDic P (.dic l)) = (P l) := rfl
theorem z004 (P : Val → Prop) (y : Val) (d : D) : (getP (some d) y P) = (P (.dat d)) := rfl
theorem z005 (P : Val → Prop) (y : Val) : (getP none y P) = (P y) := rfl
theorem z006 (i : Int) : (keyD (.int i)) = (some (.inl i)) := rfl
theorem z007 (i : Str) : (keyD (.str i)) = (some (.inr i)) := rfl
theorem z008 (l : List D) : (itD (.tup l)) = (some l) := rfl
theorem z009 (l : List D) : (itD (.lst l)) = (some l) := rfl
theorem z010 (z : Str) : (itD (.str z)) = (some (z.cps.toList.map fun c => .str ⟨#[c]⟩)) := rfl
theorem z011 (d : D) (P : Ct → Prop) (l : List D) (j : Int) : (putC d P (.lst l) (.int j)) = (onO (ixN l.length j) fun n => P (.lst (l.set n d))) := rfl
theorem z012 (d : D) (P : Ct → Prop) (l : List (Key × D)) (j : Int) : (putC d P (.dic l) (.int j)) = (l.length < sizeLine ∧ P (.dic (putD l (.inl j) d))) := rfl
theorem z013 (d : D) (P : Ct → Prop) (l : List (Key × D)) (j : Str) : (putC d P (.dic l) (.str j)) = (l.length < sizeLine ∧ P (.dic (putD l (.inr j) d))) := rfl
theorem z014 {α : Type} (a : α) (P : α → Prop) : (onO (some a) P) = (P a) := rfl
theorem z015 {α : Type} (P : α → Prop) : (onO (none : Option α) P) = False := rfl
end Dl
/-! Dl11: plain facts: == of flat data, what may be asked, how deep. -/
namespace Dl
open PySem PySem.Spec PyProof.Rows L2
theorem eqOk_int (i : Int) : eqOk (.int i) = true := rfl
theorem eqOk_non : eqOk .non = true := rfl
theorem eqOk_str {s : Str} (h : okS s) : eqOk (.str s) = true := by
  unfold eqOk SeqAt.shaped
  rw [Bool.and_eq_true, Bool.and_eq_true]
  exact ⟨rfl, okS_strOk h, rfl⟩
theorem eqd_int (a b : Int) : eqd (.int a) (.int b) = decide (a = b) := by
  show (a == b) = _
  by_cases h : a = b
  · subst h; simp
  · simp [h]
theorem eqd_str (a b : Str) : eqd (.str a) (.str b) = decide (a = b) := by
  show (a == b) = _
  by_cases h : a = b
  · subst h; simp
  · simp [h]
theorem eqd_bl' (a b : Bool) : eqd (.bl a) (.bl b) = decide (a = b) := by cases a <;> cases b <;> rfl
theorem one_inj {c d : Nat} : ((⟨#[c]⟩ : Str) = ⟨#[d]⟩) ↔ c = d := by
  constructor
  · intro h
    injection h with h
    injection h with h
    injection h with h
  · rintro rfl; rfl
theorem eqd_one (c d : Nat) : eqd (.str ⟨#[c]⟩) (.str ⟨#[d]⟩) = decide (c = d) := by
  rw [eqd_str]
  by_cases h : c = d
  · subst h; simp
  · rw [decide_eq_false h, decide_eq_false fun z => h (one_inj.mp z)]
theorem sz_ok {n : Nat} (h : n ≤ 100000) : n ≤ sizeLine := small_sz h
mutual
/-- data that a law may hand about: texts not too long, at most m things in a tuple or list -/
def okT (m : Nat) : D → Bool
  | .non => true
  | .bl _ => true
  | .int _ => true
  | .str s => decide (s.length ≤ 1000) && s.cps.toList.all fun c => decide (c < 0x110000)
  | .tup l => okTL m l && decide (l.length ≤ m)
  | .lst l => okTL m l && decide (l.length ≤ m)
  | .dic _ => true
  | _ => false
def okTL (m : Nat) : List D → Bool
  | [] => true
  | d :: r => okT m d && okTL m r
end
mutual
/-- how deep the tuples lie -/
def dep : D → Nat
  | .tup l => depL l + 1
  | _ => 0
def depL : List D → Nat
  | [] => 0
  | d :: r => max (dep d) (depL r)
end
theorem okT_plain {m : Nat} {d : D} (h : okT m d = true) : d.plain = true := by cases d <;> first | rfl | cases h
theorem okT_str {m : Nat} {s : Str} : okT m (.str s) = true ↔ s.length ≤ 1000 ∧ okS s := by
  show (decide (s.length ≤ 1000) && s.cps.toList.all fun c => decide (c < 0x110000)) = true ↔ _
  rw [Bool.and_eq_true, decide_eq_true_iff, List.all_eq_true]
  exact ⟨fun h => ⟨h.1, fun c hc => of_decide_eq_true (h.2 c hc)⟩, fun h => ⟨h.1, fun c hc => decide_eq_true (h.2 c hc)⟩⟩
theorem okTL_mem {m : Nat} : ∀ {l : List D}, okTL m l = true ↔ ∀ d ∈ l, okT m d = true
  | [] => ⟨fun _ d h => (nomatch h), fun _ => rfl⟩
  | a :: r => by
    show (okT m a && okTL m r) = true ↔ _
    rw [Bool.and_eq_true, okTL_mem (l := r)]
    refine ⟨fun h d hd => ?_, fun h => ⟨h a (List.mem_cons_self ..), fun d hd => h d (List.mem_cons_of_mem _ hd)⟩⟩
    rcases List.mem_cons.mp hd with e | e
    · rw [e]; exact h.1
    · exact h.2 d e
theorem okT_tup {m : Nat} {l : List D} : okT m (.tup l) = true ↔ (∀ d ∈ l, okT m d = true) ∧ l.length ≤ m := by
  show (okTL m l && decide (l.length ≤ m)) = true ↔ _
  rw [Bool.and_eq_true, okTL_mem, decide_eq_true_iff]
theorem okT_lst {m : Nat} {l : List D} : okT m (.lst l) = true ↔ (∀ d ∈ l, okT m d = true) ∧ l.length ≤ m := by
  show (okTL m l && decide (l.length ≤ m)) = true ↔ _
  rw [Bool.and_eq_true, okTL_mem, decide_eq_true_iff]
mutual
theorem okT_up {m k : Nat} (hk : m ≤ k) : ∀ {d : D}, okT m d = true → okT k d = true
  | .non, h => h
  | .bl _, h => h
  | .int _, h => h
  | .str _, h => h
  | .tup l, h => by
    have h : (okTL m l && decide (l.length ≤ m)) = true := h
    rw [Bool.and_eq_true, decide_eq_true_iff] at h
    show (okTL k l && decide (l.length ≤ k)) = true
    rw [Bool.and_eq_true, decide_eq_true_iff]
    exact ⟨okTL_up hk h.1, Nat.le_trans h.2 hk⟩
  | .lst l, h => by
    have h : (okTL m l && decide (l.length ≤ m)) = true := h
    rw [Bool.and_eq_true, decide_eq_true_iff] at h
    show (okTL k l && decide (l.length ≤ k)) = true
    rw [Bool.and_eq_true, decide_eq_true_iff]
    exact ⟨okTL_up hk h.1, Nat.le_trans h.2 hk⟩
  | .dic _, h => h
theorem okTL_up {m k : Nat} (hk : m ≤ k) : ∀ {l : List D}, okTL m l = true → okTL k l = true
  | [], _ => rfl
  | a :: r, h => by
    have h : (okT m a && okTL m r) = true := h
    rw [Bool.and_eq_true] at h
    show (okT k a && okTL k r) = true
    rw [Bool.and_eq_true]
    exact ⟨okT_up hk h.1, okTL_up hk h.2⟩
end
theorem depL_le {n : Nat} : ∀ {l : List D}, depL l ≤ n ↔ ∀ d ∈ l, dep d ≤ n
  | [] => ⟨fun _ d h => (nomatch h), fun _ => Nat.zero_le _⟩
  | a :: r => by
    show max (dep a) (depL r) ≤ n ↔ _
    rw [Nat.max_le, depL_le (l := r)]
    refine ⟨fun h d hd => ?_, fun h => ⟨h a (List.mem_cons_self ..), fun d hd => h d (List.mem_cons_of_mem _ hd)⟩⟩
    rcases List.mem_cons.mp hd with e | e
    · rw [e]; exact h.1
    · exact h.2 d e
theorem dep_tup {n : Nat} {l : List D} : dep (.tup l) ≤ n + 1 ↔ ∀ d ∈ l, dep d ≤ n := by
  show depL l + 1 ≤ n + 1 ↔ _
  rw [← depL_le (n := n)]
  omega
/-- data, not too deep -/
def Gd (m n : Nat) (d : D) : Prop := okT m d = true ∧ dep d ≤ n
theorem Gd.up {k n m : Nat} {d : D} (h : Gd k n d) (hm : n ≤ m) : Gd k m d := ⟨h.1, Nat.le_trans h.2 hm⟩
theorem Gd.wide {k n m : Nat} {d : D} (h : Gd k n d) (hm : k ≤ m) : Gd m n d := ⟨okT_up hm h.1, h.2⟩
theorem gd_tup {k n : Nat} {l : List D} (h : ∀ d ∈ l, Gd k n d) (hl : l.length ≤ k) : Gd k (n + 1) (.tup l) := ⟨okT_tup.mpr ⟨fun d hd => (h d hd).1, hl⟩, dep_tup.mpr fun d hd => (h d hd).2⟩
theorem gd_of_tup {k n : Nat} {l : List D} (h : Gd k (n + 1) (.tup l)) : (∀ d ∈ l, Gd k n d) ∧ l.length ≤ k := ⟨fun d hd => ⟨(okT_tup.mp h.1).1 d hd, dep_tup.mp h.2 d hd⟩, (okT_tup.mp h.1).2⟩
theorem gd_zero {k : Nat} {l : List D} (h : Gd k 0 (.tup l)) : False := by
  have := h.2
  have e : dep (.tup l) = depL l + 1 := rfl
  omega
theorem gd_lst {k n m : Nat} {l : List D} (h : ∀ d ∈ l, Gd k m d) (hl : l.length ≤ k) : Gd k n (.lst l) := ⟨okT_lst.mpr ⟨fun d hd => (h d hd).1, hl⟩, Nat.zero_le _⟩
theorem gd_str {k n : Nat} {s : Str} (h : s.length ≤ 1000) (o : okS s) : Gd k n (.str s) := ⟨okT_str.mpr ⟨h, o⟩, Nat.zero_le _⟩
theorem gd_int {k n : Nat} (i : Int) : Gd k n (.int i) := ⟨rfl, Nat.zero_le _⟩
theorem gd_bl {k n : Nat} (i : Bool) : Gd k n (.bl i) := ⟨rfl, Nat.zero_le _⟩
theorem mem_cut {l : List D} {lo hi : Option Int} {d : D} (h : d ∈ cutD l lo hi) : d ∈ l := List.mem_of_mem_drop (List.mem_of_mem_take h)
theorem cut_len (l : List D) (lo hi : Option Int) : (cutD l lo hi).length ≤ l.length := by
  unfold cutD
  rw [List.length_take, List.length_drop]
  omega
/-- all but the first -/
theorem cut_tail (a : D) (l : List D) : cutD (a :: l) (some 1) none = l := by
  unfold cutD
  have e1 : HT.sIx (a :: l).length 0 (some 1) = 1 := by
    unfold HT.sIx
    simp
  have e2 : HT.sIx (a :: l).length (a :: l).length none = (a :: l).length := rfl
  rw [e1, e2]
  simp
theorem tabV_map (f : Str → D) (z : Str) : ∀ l : List (Str × Str), tabV (l.map fun p => (p.1, f p.2)) z = ((l.find? fun p => decide (p.1 = z)).map (·.2)).map f
  | [] => rfl
  | (k, v) :: r => by
    unfold tabV
    rw [List.map_cons, List.find?_cons, List.find?_cons]
    by_cases h : k = z
    · rw [decide_eq_true h]; rfl
    · rw [decide_eq_false h]; exact tabV_map f z r
theorem valD_map (f : Str → D) (z : Str) : ∀ l : List (Str × Str), valD (l.map fun p => ((.inr p.1 : Key), f p.2)) (.inr z) = ((l.find? fun p => decide (p.1 = z)).map (·.2)).map f
  | [] => rfl
  | (k, v) :: r => by
    unfold valD
    rw [List.map_cons, List.find?_cons, List.find?_cons]
    by_cases h : k = z
    · rw [decide_eq_true h, decide_eq_true (by rw [h])]; rfl
    · rw [decide_eq_false h, decide_eq_false (fun e => h (Sum.inr.inj e))]; exact valD_map f z r
theorem merge_app : ∀ (more kvs : List (Key × D)), ((kvs ++ more).map (·.1)).Nodup → mergeD kvs more = kvs ++ more
  | [], kvs, _ => by rw [List.append_nil]; rfl
  | p :: more, kvs, h => by
    have hn : (kvs.any fun kv => decide (kv.1 = p.1)) = false := by
      rw [List.any_eq_false]
      intro kv hkv e
      have e : kv.1 = p.1 := of_decide_eq_true e
      rw [List.map_append, List.nodup_append] at h
      exact h.2.2 kv.1 (List.mem_map.mpr ⟨kv, hkv, rfl⟩) p.1 (List.mem_map.mpr ⟨p, List.mem_cons_self .., rfl⟩) e
    have e1 : mergeD kvs (p :: more) = mergeD (putD kvs p.1 p.2) more := rfl
    have e2 : putD kvs p.1 p.2 = kvs ++ [p] := by
      unfold putD
      rw [hn]
      rfl
    have e3 : kvs ++ p :: more = kvs ++ [p] ++ more := by simp
    rw [e1, e2, merge_app more (kvs ++ [p]) (by rw [← e3]; exact h), ← e3]
theorem merge_new {more : List (Key × D)} (h : (more.map (·.1)).Nodup) : mergeD [] more = more := merge_app more [] h
theorem cut_take (l : List D) {i : Int} (h : 0 ≤ i) : cutD l none (some i) = l.take i.toNat := by
  unfold cutD
  have e1 : HT.sIx l.length 0 none = 0 := rfl
  have e2 : HT.sIx l.length l.length (some i) = min i.toNat l.length := by
    show (if i < 0 then (i + (l.length : Int)).toNat else min i.toNat l.length) = _
    rw [if_neg (by omega)]
  rw [e1, e2, List.drop_zero, Nat.sub_zero]
  rcases Nat.le_total i.toNat l.length with z | z
  · rw [Nat.min_eq_left z]
  · rw [Nat.min_eq_right z, List.take_length, List.take_of_length_le z]
theorem cut_drop (l : List D) {i : Int} (h : 0 ≤ i) : cutD l (some i) none = l.drop i.toNat := by
  unfold cutD
  have e1 : HT.sIx l.length 0 (some i) = min i.toNat l.length := by
    show (if i < 0 then (i + (l.length : Int)).toNat else min i.toNat l.length) = _
    rw [if_neg (by omega)]
  have e2 : HT.sIx l.length l.length none = l.length := rfl
  rw [e1, e2]
  rcases Nat.le_total i.toNat l.length with z | z
  · rw [Nat.min_eq_left z, List.take_of_length_le (by rw [List.length_drop]; omega)]
  · rw [Nat.min_eq_right z, List.drop_of_length_le (Nat.le_refl _), List.drop_of_length_le z, List.take_nil]
theorem gT2_mk {i j : Nat} {a b : D} {r : DEnv} {P : DEnv → Prop} (h : P (Dl.st (Dl.st r i (some (.dat a))) j (some (.dat b)))) : gT2 i j (.tup [a, b]) r P := h
theorem gT3_mk {i j k : Nat} {a b c : D} {r : DEnv} {P : DEnv → Prop} (h : P (Dl.st (Dl.st (Dl.st r i (some (.dat a))) j (some (.dat b))) k (some (.dat c)))) : gT3 i j k (.tup [a, b, c]) r P := h
theorem gN_mk {i : Nat} {d : D} {r : DEnv} {P : DEnv → Prop} (h : P (Dl.st r i (some (.dat d)))) : gN i d r P := h
end Dl
/-! Dl12: x += e and x -= e of ints, sum, lists told several times. -/
namespace Dl
open PySem PySem.Spec PyProof.Rows L2
section
variable {X : Cx} {W : WX}
/-- x op= e, ints -/
def dAug (f : Int → Int → Int) (i : Nat) (de : DE) : DS := fun xc E r => match lk r i with
  | some (.dat (.int a)) => de xc r fun y => asI (fun b => E.nx (st r i (some (.dat (.int (f a b)))))) y.d
  | _ => False
theorem qs_aug {f : Int → Int → Int} {op : Operator} {i : Nat} {x : Str} {e : Expr} {de : DE} {pos pos' : Pos} {f1 : Bool} (ho : PIp X op (ipI f)) (hN : X.N.Nodup) (hi : X.N[i]? = some x) (hx : Loc X.env.scope x) (he : PE X e (L X.K W f1 de))
    (hf : X.fn x = true ∨ X.env.scope.names.lookup x = some .local := by first | exact .inl rfl | exact .inr rfl | assumption) : PS X (.AugAssign (.Name x pos') op e pos) (LS X.K W (dAug f i de)) := by
  refine imS (ps_aug hN hi hx he ho hf) fun E s H ⟨B, r, xc, De, k, en, h, hx, nx, bk, ct, rt⟩ => ?_
  unfold dAug at h
  split at h
  · rename_i a hl
    obtain ⟨v, h1, h2⟩ := en.at_ i _ hl
    cases h2
    refine ⟨.int a, h1, B, r, xc, _, k, en, h, fun cls d e H' B' z => hx cls d e s r H' B' z.s (en.step z), fun y vy H1 B1 z ry _ q => ?_⟩
    obtain ⟨b, e, q⟩ := asI_elim q
    have ey := rv_int ry e
    subst ey
    exact ⟨a, b, rfl, rfl, nx _ _ _ _ (StepS.set z (x := .dat (.int (f a b))) Fr.dat) (EnvRep.setN en z (x := .dat (.int (f a b))) (Rep.int _) Fr.dat) q⟩
  · exact h.elim
/-! ### sum of a list of ints -/
def intsOf : List D → Option (List Int)
  | [] => some []
  | .int i :: r => (intsOf r).map (i :: ·)
  | _ :: _ => none
theorem ints_rep {K : PySem.W.Frag} {B : Hp} : ∀ {ds : List D} {vs : List V} {ns : List Int}, RepL K B vs ds → intsOf ds = some ns → vs = ns.map V.int
  | [], _, _, .nil, e => by cases e; rfl
  | .int i :: r, _, _, .cons h t, e => by
    cases h
    unfold intsOf at e
    obtain ⟨l, hl, e⟩ := Option.map_eq_some_iff.mp e
    subst e
    rw [ints_rep t hl]
    rfl
theorem intsOf_map {α : Type} (f : α → Int) : ∀ l : List α, intsOf (l.map fun a => D.int (f a)) = some (l.map f)
  | [] => rfl
  | a :: r => by
    show (intsOf (r.map fun a => D.int (f a))).map (f a :: ·) = _
    rw [intsOf_map f r]
    rfl
def fSumD (P : Val → Prop) : D → Prop
  | .lst l => onO (intsOf l) fun ns => P (.dat (.int ns.sum))
  | _ => False
def fSum : F1 := fun x P => fSumD P x.d
theorem rel_sum : RelC1 X.K (rSum X.K) fSum := by
  intro B H x vx P Q k rx h a
  unfold fSum fSumD at h
  split at h
  · rename_i l e
    obtain ⟨ns, hn, h⟩ := onO_elim h
    obtain ⟨p, vs, rfl, hp, rl⟩ := rv_lst k rx e
    have ev := ints_rep rl hn
    subst ev
    exact ⟨p, ns, rfl, .inl (.inl hp), a.dat k (.int _) h⟩
  · exact h.elim
/-! ### list * int -/
theorem RepL.rep {K : PySem.W.Frag} {B : Hp} {vs : List V} {ds : List D} (r : RepL K B vs ds) : ∀ n : Nat, RepL K B (List.replicate n vs).flatten (List.replicate n ds).flatten
  | 0 => .nil
  | n + 1 => by
    rw [List.replicate_succ, List.replicate_succ, List.flatten_cons, List.flatten_cons]
    exact r.append (RepL.rep r n)
def fRepD (P : Val → Prop) : D → D → Prop
  | .lst l, .int k => (-(2 ^ 63) ≤ k ∧ k < 2 ^ 63 ∧ l.length * k.toNat ≤ sizeLine) ∧ P (.tmp (.lst (List.replicate k.toNat l).flatten))
  | _, _ => False
def fRep : F2 := fun x y P => fRepD P x.d y.d
theorem rel_rep {K : PySem.W.Frag} : RelR K rRep fRep := by
  intro B H x y vx vy P Q k rx ry h a
  unfold fRep fRepD at h
  split at h
  · rename_i l n e1 e2
    obtain ⟨p, vs, rfl, hp, rl⟩ := rv_lst k rx e1
    exact ⟨p, n, vs, rfl, rv_int ry e2, hp, h.1.1, h.1.2.1, by rw [rl.length]; exact h.1.2.2, fun q nq => a.newL k (rl.rep _) h.2 nq⟩
  · exact h.elim
theorem q_rep {a b : Expr} {pos : Pos} {da db : DE} {fa fb : Bool} (ha : PE X a (L X.K W fa da)) (hb : PE X b (L X.K W fb db)) : PE X (.BinOp a .Mult b pos) (L X.K W true (dOp fRep da db)) := q_op op_rep rel_rep ha hb
theorem z016 (P : Val → Prop) (l : List D) (k : Int) : (fRepD P (.lst l) (.int k)) = ((-(2 ^ 63) ≤ k ∧ k < 2 ^ 63 ∧ l.length * k.toNat ≤ sizeLine) ∧ P (.tmp (.lst (List.replicate k.toNat l).flatten))) := rfl
theorem z017 (P : Val → Prop) (l : List D) : (fSumD P (.lst l)) = (onO (intsOf l) fun ns => P (.dat (.int ns.sum))) := rfl
end
end Dl
/-! Dl13: draws that are lists, str(int), while, x += a list, what is never come to. -/
namespace Dl
open PySem PySem.Spec PyProof.Rows L2
section
variable {X : Cx} {W : WX}
theorem upd_id {H : Hp} {a : Addr} {o : HO} (h : H a = some o) : upd H a o = H := by
  funext b; unfold upd; split
  · rename_i e; rw [e, h]
  · rfl
/-- a draw's list, seen as a list -/
theorem drl_view {pins : List (Addr × Obj)} {σ : L2.St} {H : Hp} {s : Shared} {a : Addr} (I : Inv X pins σ H s) (h : H a = some (DrL a)) :
    ∃ r m c : Int, (0 ≤ r ∧ 0 ≤ m ∧ m < 2147483647) ∧ Inv X pins σ (upd H a (.lst [.int r, .int m, .int c])) s := by
  obtain ⟨⟨r, m, c, t, u, v, n, e, b⟩, _⟩ := I.hok a _ h
  exact ⟨r, m, c, b, I.write (h' := s.heap) (t' := s.toks) (x := a) (e := a) (by rw [h]; trivial) (.inl rfl) (fun _ _ _ q => q) ⟨_, e⟩ ⟨by show 3 ≤ sizeLine; decide, [.int r t, .int m u, .int c v], n, .cons ⟨t, rfl⟩ (.cons ⟨u, rfl⟩ (.cons ⟨v, rfl⟩ .nil)), e⟩⟩
theorem drl_back {pins : List (Addr × Obj)} {σ : L2.St} {H : Hp} {s : Shared} {a : Addr} {r m c : Int} (I : Inv X pins σ (upd H a (.lst [.int r, .int m, .int c])) s) (h : H a = some (DrL a)) (b : 0 ≤ r ∧ 0 ≤ m ∧ m < 2147483647) : Inv X pins σ H s := by
  obtain ⟨_, its, n, rv, e⟩ := I.hok a _ upd_same
  cases rv with
  | cons r1 rv =>
    cases rv with
    | cons r2 rv =>
      cases rv with
      | cons r3 rv =>
        cases rv
        obtain ⟨t, rfl⟩ := r1
        obtain ⟨u, rfl⟩ := r2
        obtain ⟨v, rfl⟩ := r3
        have I2 := I.write (o := DrL a) (h' := s.heap) (t' := s.toks) (x := a) (e := a) (by rw [upd_same]; trivial) (.inl rfl) (fun _ _ _ q => q) ⟨_, e⟩
          ⟨⟨r, m, c, t, u, v, n, e, b⟩, ⟨_, e⟩, fun h1 h2 ⟨r, m, c, t, u, v, n, e, b⟩ k => ⟨r, m, c, t, u, v, n, k _ e, b⟩⟩
        rw [upd_upd, upd_id h] at I2
        exact I2
/-- what may stand at a place of a draw's list -/
def drlIn (j : Int) (n : Int) : Prop := (j = 0 → 0 ≤ n) ∧ (j = 1 → 0 ≤ n ∧ n < 2147483647)
theorem drl_at {r m c j : Int} (hj : j = 0 ∨ j = 1 ∨ j = 2) (b : 0 ≤ r ∧ 0 ≤ m ∧ m < 2147483647) : ∃ n : Int, atI [V.int r, V.int m, V.int c] j = some (.int n) ∧ drlIn j n := by
  rcases hj with rfl | rfl | rfl
  · exact ⟨r, rfl, fun _ => b.1, (fun z => nomatch z)⟩
  · exact ⟨m, rfl, (fun z => nomatch z), fun _ => b.2⟩
  · exact ⟨c, rfl, (fun z => nomatch z), (fun z => nomatch z)⟩
theorem drl_put {r m c j n : Int} (hj : j = 0 ∨ j = 1 ∨ j = 2) (b : 0 ≤ r ∧ 0 ≤ m ∧ m < 2147483647) (hn : drlIn j n) :
    ∃ k, ixN ([V.int r, V.int m, V.int c] : List V).length j = some k ∧ ∃ r' m' c' : Int, ([V.int r, V.int m, V.int c] : List V).set k (.int n) = [.int r', .int m', .int c'] ∧ 0 ≤ r' ∧ 0 ≤ m' ∧ m' < 2147483647 := by
  rcases hj with rfl | rfl | rfl
  · exact ⟨0, rfl, n, m, c, rfl, hn.1 rfl, b.2⟩
  · exact ⟨1, rfl, r, n, c, rfl, b.1, hn.2 rfl⟩
  · exact ⟨2, rfl, r, m, n, rfl, b⟩
def rIxDrl : R2 := fun x y H Q => ∃ a j, x = .ref a ∧ y = .int j ∧ (j = 0 ∨ j = 1 ∨ j = 2) ∧ H a = some (DrL a) ∧ ∀ n, drlIn j n → Q (.int n) H
theorem ix_drl : IxR X rIxDrl := by
  intro value slice pins s σ H x y v u Q I rx ry h hs
  obtain ⟨a, j, rfl, rfl, hj, ha, q⟩ := h
  obtain ⟨r, m, c, b, I1⟩ := drl_view I ha
  obtain ⟨n, hn, dn⟩ := drl_at hj b
  refine wpAny_mono (ix_list value slice pins s σ _ (.ref a) (.int j) v u (fun z G => z = .int n ∧ G = upd H a (.lst [.int r, .int m, .int c])) I1 rx ry ⟨a, _, j, _, rfl, rfl, .inl (.inl upd_same), hn, rfl, rfl⟩ hs) (fun w s2 ⟨z, G, I2, rz, e1, e2⟩ => ?_) fun _ _ e => e
  subst e1 e2
  exact ⟨.int n, H, drl_back I2 ha b, rz, q n dn⟩
def rSetDrl : TSet := fun o i v H Q => ∃ a j n, o = .ref a ∧ i = .int j ∧ v = .int n ∧ (j = 0 ∨ j = 1 ∨ j = 2) ∧ H a = some (DrL a) ∧ drlIn j n ∧ Q H
theorem set_drl : PSet X rSetDrl := by
  intro pins s σ H o i v ov iv u Q I ro ri rv h
  obtain ⟨a, j, n, rfl, rfl, rfl, hj, ha, dn, q⟩ := h
  obtain ⟨r, m, c, b, I1⟩ := drl_view I ha
  obtain ⟨k, hk, r2, m2, c2, e, b2⟩ := drl_put hj b dn
  refine wpAny_mono (set_list pins s σ _ (.ref a) (.int j) (.int n) ov iv u (fun G => G = upd H a (.lst [.int r2, .int m2, .int c2])) I1 ro ri rv ⟨a, _, j, k, rfl, rfl, upd_same, hk, by rw [upd_upd, e]⟩) (fun w s2 ⟨G, I2, e1⟩ => ?_) fun _ _ e => e
  subst e1
  exact ⟨H, drl_back I2 ha b2, q⟩
theorem get_drl : PGet X rIxDrl := by
  intro pins s σ H o i ov iv Q I ro ri h
  obtain ⟨a, j, rfl, rfl, hj, ha, q⟩ := h
  obtain ⟨r, m, c, b, I1⟩ := drl_view I ha
  obtain ⟨its, rv, pl, hz⟩ := I1.list (.inl (.inl upd_same))
  cases (show ov = Value.ref a from ro)
  obtain ⟨t, rfl⟩ := (show ∃ t, iv = Value.int j t from ri)
  cases rv with
  | cons r1 rv =>
    cases rv with
    | cons r2 rv =>
      cases rv with
      | cons r3 rv =>
        cases rv
        rcases hj with rfl | rfl | rfl
        · exact wpAny_getItem_list pl.isList (by decide) (by decide) rfl ⟨.int r, H, drl_back I1 ha b, r1, q r ⟨fun _ => b.1, (fun z => nomatch z)⟩⟩
        · exact wpAny_getItem_list pl.isList (by decide) (by decide) rfl ⟨.int m, H, drl_back I1 ha b, r2, q m ⟨(fun z => nomatch z), fun _ => b.2⟩⟩
        · exact wpAny_getItem_list pl.isList (by decide) (by decide) rfl ⟨.int c, H, drl_back I1 ha b, r3, q c ⟨(fun z => nomatch z), (fun z => nomatch z)⟩⟩
/-- d[0], d[1], d[2] -/
def dDrawlGet (i : Nat) (j : Int) : DE := fun _ r P => match lk r i with
  | some (.dat .drawl) => ∀ n : Int, drlIn j n → P (.dat (.int n))
  | _ => False
theorem q_drawlGet (i : Nat) {x : Str} {j : Int} {q : Nat} {p1 p2 pos : Pos} (hj : j = 0 ∨ j = 1 ∨ j = 2) (hx : PE X (.Name x p1) (tVar i)) (hs : PlainIx (.Constant (.int j) q p2) := by exact fun _ _ => rfl) :
    PE X (.Subscript (.Name x p1) (.Constant (.int j) q p2) pos) (L X.K W true (dDrawlGet i j)) := by
  refine imE (pe_ix ix_drl hx pe_int hs) fun s H Q ⟨B, r, xc, P, k, en, h, hx, hq⟩ => ?_
  unfold dDrawlGet at h
  split at h
  · rename_i e
    obtain ⟨v, hv, rv⟩ := en.at_ i _ e
    cases rv with
    | @drawl a hb =>
      exact ⟨.ref a, hv, a, j, rfl, rfl, hj, (k _ _ hb).1 DrawO.ext, fun n hn => hq _ (.dat (.int n)) H B (.refl k) (.int n) (fun _ => Fr.dat) (h n hn)⟩
  · exact h.elim
/-- d[j] = e -/
def dDrawlPut (i : Nat) (j : Int) (de : DE) : DS := fun xc E r => match lk r i with
  | some (.dat .drawl) => de xc r fun x => asI (fun n => drlIn j n ∧ E.nx r) x.d
  | _ => False
theorem qs_drawlPut (i : Nat) {x : Str} {j : Int} {q : Nat} {p1 p2 p3 pos : Pos} {e : Expr} {de : DE} {f : Bool} (hj : j = 0 ∨ j = 1 ∨ j = 2) (hx : PE X (.Name x p1) (tVar i)) (he : PE X e (L X.K W f de))
    (ha : ∀ v, assign (.Subscript (.Name x p1) (.Constant (.int j) q p2) p3) X.env v = (do
      let ov ← holding [v] (eval (.Name x p1) X.env)
      let iv ← holding [v, ov] (eval (.Constant (.int j) q p2) X.env)
      standAt p3
      holding [v, ov, iv] (setItem ov iv v)
      release [v, ov, iv] []) := by intro _; rfl)
    (hs : swapsWithSole [.Subscript (.Name x p1) (.Constant (.int j) q p2) p3] e pos.line X.env = pure false := by rfl) (hw : swappedStores [.Subscript (.Name x p1) (.Constant (.int j) q p2) p3] e X.env = pure none := by rfl)
    (h1 : (assignEach [.Subscript (.Name x p1) (.Constant (.int j) q p2) p3] X.env).map (·.2) = [assign (.Subscript (.Name x p1) (.Constant (.int j) q p2) p3) X.env] := by rfl) :
    PS X (.Assign [.Subscript (.Name x p1) (.Constant (.int j) q p2) p3] e pos) (LS X.K W (dDrawlPut i j de)) := by
  refine imS (ps_asg he (pg_sub hx pe_int set_drl ha) hs hw h1) fun E s H ⟨B, r, xc, De, k, en, h, hx, nx, bk, ct, rt⟩ => ?_
  unfold dDrawlPut at h
  split at h
  · rename_i el
    refine ⟨B, r, xc, _, k, en, h, fun cls d e H' B' z => hx cls d e s r H' B' z.s (en.step z), fun v x H1 B1 z rv _ q => ?_⟩
    obtain ⟨n, en2, q⟩ := asI_elim q
    have ev := rv_int rv en2
    subst ev
    obtain ⟨vd, hv, rd⟩ := (en.step z).at_ i _ el
    cases rd with
    | @drawl a hb => exact ⟨.ref a, hv, a, j, n, rfl, rfl, rfl, hj, (z.sub _ _ hb).1 DrawO.ext, q.1, nx _ _ _ _ z.s (en.step z) q.2⟩
  · exact h.elim
/-- d[j] += e -/
def dDrawlAug (i : Nat) (j : Int) (de : DE) : DS := fun xc E r => match lk r i with
  | some (.dat .drawl) => ∀ a, drlIn j a → de xc r fun x => asI (fun n => drlIn j (a + n) ∧ E.nx r) x.d
  | _ => False
theorem qs_drawlAug (i : Nat) {x : Str} {j : Int} {q : Nat} {p1 p2 p3 pos : Pos} {e : Expr} {de : DE} {f : Bool} (hj : j = 0 ∨ j = 1 ∨ j = 2) (hx : PE X (.Name x p1) (tVar i)) (he : PE X e (L X.K W f de))
    (ha : ∀ ov iv new, augStore (.Constant (.int j) q p2) ov iv new = (do holding [new, ov, iv] (setItem ov iv new); release [new, ov, iv] []; pure .next) := by intros; rfl) :
    PS X (.AugAssign (.Subscript (.Name x p1) (.Constant (.int j) q p2) p3) .Add e pos) (LS X.K W (dDrawlAug i j de)) := by
  refine imS (ps_augS hx pe_int get_drl he ip_add set_drl ha) fun E s H ⟨B, r, xc, De, k, en, h, hx, nx, bk, ct, rt⟩ => ?_
  unfold dDrawlAug at h
  split at h
  · rename_i el
    obtain ⟨v, hv, rv⟩ := en.at_ i _ el
    cases rv with
    | @drawl a hb =>
      refine ⟨.ref a, hv, a, j, rfl, rfl, hj, (k _ _ hb).1 DrawO.ext, fun n hn => ?_⟩
      refine ⟨B, r, xc, _, k, en, h n hn, fun cls d e H' B' z => hx cls d e s r H' B' z.s (en.step z), fun v x H1 B1 z rv _ q => ?_⟩
      obtain ⟨n2, en2, q⟩ := asI_elim q
      have ev := rv_int rv en2
      subst ev
      exact ⟨n, n2, rfl, rfl, a, j, n + n2, rfl, rfl, rfl, hj, (z.sub _ _ ((z.kp _ _ hb).1 DrawO.ext)).1 DrawO.ext, q.1, nx _ _ _ _ z.s (en.step z) q.2⟩
  · exact h.elim
/-- a new list that is a draw -/
def dDrawl (de : DE) : DE := fun xc r P => de xc r fun x => (∃ a b c : Int, x = .tmp (.lst [.int a, .int b, .int c]) ∧ 0 ≤ a ∧ 0 ≤ b ∧ b < 2147483647) ∧ P (.dat .drawl)
theorem pe_new {e : Expr} {t : TE} (h : PE X e t) : PE X e (fun s H Q => t s H fun v H1 => ∃ H2, (∀ (σ : L2.St) (pins : List (Addr × Obj)) (s1 : Shared), Inv X pins σ H1 s1 → Inv X pins σ H2 s1) ∧ Q v H2) :=
  ⟨fun pins s σ H Q I a => wpAny_mono (h.run pins s σ H _ I a) (fun v s1 ⟨x, H1, I1, rx, H2, k, q⟩ => ⟨x, H2, k σ pins s1 I1, rx, q⟩) fun _ _ e => e⟩
theorem q_drawl {e : Expr} {de : DE} (h : PE X e (L X.K W true de)) : PE X e (L X.K W true (dDrawl de)) := by
  refine imE (pe_new h) fun s H Q ⟨B, r, xc, P, k, en, h, hx, hq⟩ => ⟨B, r, xc, _, k, en, h, hx, fun v x H1 B1 s1 rx fr q => ?_⟩
  obtain ⟨⟨a, b, c, rfl, h1, h2, h3⟩, q⟩ := q
  obtain ⟨p, rfl, n, vs, hp, rl⟩ := rx
  have np := fr rfl p _ rfl rfl
  have evs : vs = [.int a, .int b, .int c] := by
    cases rl with
    | cons r1 rl =>
      cases rl with
      | cons r2 rl =>
        cases rl with
        | cons r3 rl =>
          cases rl
          cases r1
          cases r2
          cases r3
          rfl
  subst evs
  refine ⟨upd H1 p (DrL p), fun σ pins s2 I => ?_, ?_⟩
  · refine drl_back (a := p) (r := a) (m := b) (c := c) ?_ upd_same ⟨h1, h2, h3⟩
    rw [upd_upd, upd_id hp]
    exact I
  · have z : Step B H (upd B1 p (DrL p)) (upd H1 p (DrL p)) := ⟨s1.kp.trans (.new n), s1.sub.upd2 p _, fun c u e nb => by
      have ne : c ≠ p := fun z => by rw [z, np] at e; cases e
      rw [upd_ne ne, upd_ne ne]
      exact s1.out c u e nb⟩
    exact hq (.ref p) (.dat .drawl) _ _ z (.drawl upd_same) (fun _ => Fr.dat) q
/-! ### str(an int), str(a truth) -/
def fStrD (P : Val → Prop) : D → Prop
  | .int i => i.natAbs.log2 < 1920 ∧ P (.dat (.str (toString i)))
  | .bl b => P (.dat (.str (if b then "True" else "False")))
  | _ => False
def fStr : F1 := fun x P => fStrD P x.d
theorem call_str1 : CallR X (.type "str") (fun xs H Q => (∃ i, xs = [.int i] ∧ i.natAbs.log2 < 1920 ∧ Q (.str (toString i)) H) ∨ ∃ b : Bool, xs = [.bl b] ∧ Q (.str (if b then "True" else "False")) H) := by
  intro pins s σ H xs us Q I r h
  rcases h with h | ⟨b, rfl, q⟩
  · exact call_str_int pins s σ H xs us Q I r h
  · cases r with
    | cons r1 rr =>
      cases rr
      cases r1
      exact PySem.P.str_of_bool ⟨.str _, H, I.tok _, ⟨_, rfl⟩, q⟩
theorem rel_str {K : PySem.W.Frag} : RelC1 K (fun xs H Q => (∃ i, xs = [.int i] ∧ i.natAbs.log2 < 1920 ∧ Q (.str (toString i)) H) ∨ ∃ b : Bool, xs = [.bl b] ∧ Q (.str (if b then "True" else "False")) H) fStr := by
  intro B H x vx P Q k rx h a
  unfold fStr fStrD at h
  split at h
  · rename_i i e
    rw [rv_int rx e]
    exact .inl ⟨i, rfl, h.1, a.dat k (.str _) h.2⟩
  · rename_i b e
    rw [rv_bl rx e]
    exact .inr ⟨b, rfl, a.dat k (.str _) h⟩
  · exact h.elim
/-! ### while -/
theorem qs_while {c : Expr} {body : List Stmt} {pos : Pos} {t : DT} {db : DS} (hp : PassesOwn (model X.prog X.w) X.A X.env X.xe) (hc : PT X c (LT X.K W t)) (hb : PSs X body (LS X.K W db)) : PS X (.While c body [] pos) (LS X.K W (dWhile t db)) := by
  refine imS (ps_while hp hc hb) fun E s H ⟨B, r, xc, De, k, en, h, hx, nx, bk, ct, rt⟩ => ?_
  obtain ⟨I, ⟨m0, i0⟩, turn⟩ := h
  refine ⟨fun m s1 H1 => ∃ B1 r1, StepS B H s r B1 H1 s1 r1 ∧ EnvRep X.K B1 H1 s1 r1 ∧ I m r1, ⟨m0, B, r, .refl k, en, i0⟩, ?_⟩
  rintro m s1 H1 ⟨B1, r1, z1, en1, i1⟩
  refine ⟨B1, r1, xc, _, z1.sub, en1, turn m r1 i1, fun cls d e H' B' z => hx cls d e s1 r1 H' B' (z1.trans z.s) (en1.step z), fun b H2 B2 z2 q => ?_⟩
  have en2 := en1.step z2
  have z12 := z1.trans z2.s
  cases b with
  | false =>
    unfold ifB at q; rw [if_neg Bool.false_ne_true] at q
    refine iteF ?_
    exact nx s1 r1 H2 B2 z12 en2 q
  | true =>
    unfold ifB at q; rw [if_pos rfl] at q
    refine iteT ?_
    refine ⟨fun s3 H3 => ∃ m', m' < m ∧ ∃ B3 r3, StepS B H s r B3 H3 s3 r3 ∧ EnvRep X.K B3 H3 s3 r3 ∧ I m' r3, fun s3 H3 h => h, ?_⟩
    refine ⟨B2, r1, xc, _, z2.sub, en2, q, fun cls d e s5 r5 H5 B5 z5 => hx cls d e s5 r5 H5 B5 (z12.trans z5), fun s5 r5 H5 B5 z5 en5 ⟨m', hm, i5⟩ => ⟨m', hm, B5, r5, z12.trans z5, en5, i5⟩, fun s5 r5 H5 B5 z5 => nx s5 r5 H5 B5 (z12.trans z5), fun s5 r5 H5 B5 z5 en5 ⟨m', hm, i5⟩ => ⟨m', hm, B5, r5, z12.trans z5, en5, i5⟩, fun v x H5 B5 z5 => rt v x H5 B5 (z12.trans z5)⟩
/-! ### what is never come to -/
theorem qs_never {st : Stmt} : PS X st (LS X.K W fun _ _ _ => False) := imS ps_never fun E s H ⟨B, r, xc, De, k, en, h, _⟩ => h.elim
/-! ### x += a list -/
theorem fillsI_list : fillsInplaceSlot (.type "list") "add" (Operator.Add == .Add) = pure false := by
  unfold fillsInplaceSlot
  show (typeLookup (.type "list") (dunderI "add") >>= fun fi => pure (fi.isSome && !isSeqSlot fi)) = pure false
  rw [PySem.F.slot_list_iadd.lookup]
  rfl
theorem seqI_list : seqSlot? (.type "list") (dunderI "add") = pure (some (.builtin "list.__iadd__")) := PySem.seqSlot_of PySem.F.slot_list_iadd.lookup (by decide +kernel)
theorem iadd_list {prog : Program} {w : World} {A : Around} {E : Value → Shared → Prop} {s : Shared} {l b : Addr} {xs ys : Array Value} {n m : Nat} {Q : Value → Shared → Prop} (hl : IsL s.heap l xs n) (hb : IsL s.heap b ys m) (hz : xs.size + ys.size ≤ sizeLine)
    (h : Q (.ref l) { s with heap := s.heap.update l (Obj.mapSeq fun x => x ++ ys) }) : wpAny (model prog w) A (inplaceOp .Add (.ref l) (.ref b)) Q E s := by
  unfold inplaceOp
  refine wpAny_holding ?_
  refine wpAny_bind (wpAny_typeOf (T := "list") ⟨_, hl, rfl⟩ (wpAny_bind (wpAny_of_eq fillsI_list ?_)))
  show wpAny _ _ (if false = true then _ else _) Q E s
  rw [if_neg Bool.false_ne_true]
  refine wpAny_bind (wpAny_binaryOp1_none (nm := "add") (T := "list") ⟨_, hl, rfl⟩ ⟨_, hb, rfl⟩ noFill_list_add ?_)
  refine wpAny_bind (wpAny_of_eq seqI_list (wpAny_bind (wpAny_rule ?_)))
  exact call_meets PySem.F.slot_list_iadd ⟨_, hl, rfl⟩ PySem.F.entry_list_iadd (PySem.F.args_list_iadd_2 _ _) (AutoSeq1.list___iadd___list_list_0 l xs n b ys m (by unfold Builtin.List.listTooLong; simp; omega) (by omega) (by omega)) ⟨hl, hb, h⟩
def rIaddL : V → V → Hp → VK → Prop := fun x y H Q => ∃ p q xs ys, x = .ref p ∧ y = .ref q ∧ H p = some (.lst xs) ∧ H q = some (.lst ys) ∧ xs.length + ys.length ≤ sizeLine ∧ Q (.ref p) (upd H p (.lst (xs ++ ys)))
theorem ip_list : PIp X .Add rIaddL := by
  intro pins s σ H x y v u Q I r1 r2 h
  obtain ⟨p, q, xs, ys, rfl, rfl, hp, hq, hz, h⟩ := h
  cases r1
  cases r2
  obtain ⟨it1, n1, v1, o1, z1⟩ := I.lst hp
  obtain ⟨it2, n2, v2, o2, z2⟩ := I.lst hq
  have l1 := v1.length
  have l2 := v2.length
  refine iadd_list o1 o2 (by simp only [List.size_toArray]; omega) ?_
  refine ⟨.ref p, _, I.lstUpd (its' := it1 ++ it2) (n' := if (it1 ++ it2).toArray.size == it1.toArray.size then n1 else n1 + 1) hp o1 ?_ (v1.append v2) (by rw [List.length_append]; exact hz) s.toks, rfl, h⟩
  simp [Obj.mapSeq]
/-- x += e -/
def extD (l : List D) (P : Ct → Prop) : D → Prop
  | .lst m => l.length + m.length ≤ sizeLine ∧ P (.lst (l ++ m))
  | _ => False
def dAugL (i : Nat) (de : DE) : DS := fun xc E r => match lk r i with
  | some (.tmp (.lst l)) => de xc r fun y => extD l (fun c => E.nx (st r i (some (.tmp c)))) y.d
  | _ => False
theorem set_self {σ : L2.St} {i : Nat} {x : Option V} (h : σ[i]? = some x) : σ.set i x = σ := by
  apply List.ext_getElem?
  intro j
  by_cases e : i = j
  · subst e
    rw [h, List.getElem?_set_self (List.getElem?_eq_some_iff.mp h).1]
  · rw [List.getElem?_set_ne e]
theorem qs_augL {i : Nat} {x : Str} {e : Expr} {de : DE} {pos pos' : Pos} {f1 : Bool} (hN : X.N.Nodup) (hi : X.N[i]? = some x) (hx : Loc X.env.scope x) (he : PE X e (L X.K W f1 de))
    (hf : X.fn x = true ∨ X.env.scope.names.lookup x = some .local := by first | exact .inl rfl | exact .inr rfl | assumption) : PS X (.AugAssign (.Name x pos') .Add e pos) (LS X.K W (dAugL i de)) := by
  refine imS (ps_aug hN hi hx he ip_list hf) fun E s H ⟨B, r, xc, De, k, en, h, hx, nx, bk, ct, rt⟩ => ?_
  unfold dAugL at h
  split at h
  · rename_i l hl
    obtain ⟨p, hp, n, w⟩ := own_at en hl
    obtain ⟨vs, hv, rl⟩ := id w
    refine ⟨.ref p, hp, B, r, xc, _, k, en, h, fun cls d e H' B' z => hx cls d e s r H' B' z.s (en.step z), fun y vy H1 B1 z ry _ q => ?_⟩
    unfold extD at q
    split at q
    · rename_i m em
      obtain ⟨a, ws, rfl, hw, rm⟩ := rv_lst z.sub ry em
      have hv1 := z.out p _ hv n
      have rl1 := rl.mono z.kp
      obtain ⟨en2, z2⟩ := own_write (o := .lst (vs ++ ws)) (c' := .lst (l ++ m)) z.sub (en.step z) hl hp hv1.2 ⟨_, upd_same, rl1.append rm⟩
      refine ⟨p, a, vs, ws, rfl, rfl, hv1.1, hw, by rw [rl1.length, rm.length]; exact q.1, ?_⟩
      show E.nx (List.set s i (some (.ref p))) _
      rw [set_self hp]
      exact nx _ _ _ _ (z.s.trans z2) en2 q.2
    · exact q.elim
  · exact h.elim
/-! ### a product of which one is small -/
def fMulS : F2 := fI CMul fun i j => .int (i * j)
theorem q_mulS {a b : Expr} {pos : Pos} {da db : DE} {fa fb : Bool} (ha : PE X a (L X.K W fa da)) (hb : PE X b (L X.K W fb db)) : PE X (.BinOp a .Mult b pos) (L X.K W true (dOp fMulS da db)) := q_op op_mul (rel_I (fun _ _ => rfl) fun _ _ => rfl) ha hb
theorem z018 (P : Val → Prop) (i : Int) : (fStrD P (.int i)) = (i.natAbs.log2 < 1920 ∧ P (.dat (.str (toString i)))) := rfl
theorem z019 (l m : List D) (P : Ct → Prop) : (extD l P (.lst m)) = (l.length + m.length ≤ sizeLine ∧ P (.lst (l ++ m))) := rfl
end
end Dl
/-! Dl14: targets that are tuples, isinstance of two types, str of a truth. -/
namespace Dl
open PySem PySem.Spec PyProof.Rows L2
section
variable {X : Cx} {W : WX}
/-- a, b = e -/
def dAsgT (de : DE) (dg : DG) : DS := fun xc E r => de xc r fun x => asD (fun d => dg d r E.nx) x
theorem qs_asgT {tg e : Expr} {pos : Pos} {de : DE} {dg : DG} {vs : List Nat} (he : PE X e (L X.K W true de)) (hg : PG X tg (LG X.K vs dg)) (hs : swapsWithSole [tg] e pos.line X.env = pure false := by rfl) (hw : swappedStores [tg] e X.env = pure none := by rfl)
    (h1 : (assignEach [tg] X.env).map (·.2) = [assign tg X.env] := by rfl) : PS X (.Assign [tg] e pos) (LS X.K W (dAsgT de dg)) := by
  refine imS (ps_asg he hg hs hw h1) fun E s H ⟨B, r, xc, De, k, en, h, hx, nx, bk, ct, rt⟩ => ⟨B, r, xc, _, k, en, h, fun cls d e H' B' z => hx cls d e s r H' B' z.s (en.step z), fun v x H1 B1 z rv fr q => ?_⟩
  cases x with
  | tmp c => exact q.elim
  | dat d => exact ⟨B1, r, d, _, z.sub, en.step z, rv, q, fun s' r' en' hw' ow q => nx s' r' H1 B1 (z.s.trans ⟨.refl _, z.sub, fun a o h n w => ⟨h, n, fun q => w (ow a q)⟩, fun _ o h => ⟨o, h⟩⟩) en' q⟩
theorem kit_rep2 {K : PySem.W.Frag} {B H : Hp} {v : V} {x : Val} (k : Kp B H) (r : RepV K B H v x) (o : x.d.plain = true) (tk : ∀ a vs, v = .ref a → SqT K H a vs → TyX K H v (.type "tuple")) :
    ∃ n : String, TyX K H v (.type n) ∧ ∀ t : Ty6, kitB n t.name = some (x.d.isi t) := by
  cases x with
  | tmp c =>
    obtain ⟨p, rfl, n, w⟩ := r
    cases c with
    | lst ds =>
      obtain ⟨vs, h, _⟩ := w
      exact ⟨"list", .base (.lst h), fun t => by rw [(kit_all t).2.2.2.2.2.1]; cases t <;> rfl⟩
    | dic ds =>
      obtain ⟨vs, h, _⟩ := w
      exact ⟨"dict", .base (.dK h), fun t => by rw [(kit_all t).2.2.2.2.2.2]; cases t <;> rfl⟩
  | dat d =>
    cases r with
    | non => exact ⟨"NoneType", .base .non, fun t => by rw [(kit_all t).1]; cases t <;> rfl⟩
    | bl b => exact ⟨"bool", .base (.bl b), fun t => by rw [(kit_all t).2.1]; cases t <;> rfl⟩
    | int i => exact ⟨"int", .base (.int i), fun t => by rw [(kit_all t).2.2.1]; cases t <;> rfl⟩
    | str x => exact ⟨"str", .base (.str x), fun t => by rw [(kit_all t).2.2.2.1]; cases t <;> rfl⟩
    | ty n => cases o
    | scr h => cases o
    | obj a => cases o
    | exc hc h hp => cases o
    | clo h => cases o
    | drawl h => cases o
    | tup h r => exact ⟨"tuple", tk _ _ rfl (kp_t k h), fun t => by rw [(kit_all t).2.2.2.2.1]; cases t <;> rfl⟩
    | lst h r => exact ⟨"list", .base (.lst ((k _ _ h).1 DrawO.lst)), fun t => by rw [(kit_all t).2.2.2.2.2.1]; cases t <;> rfl⟩
    | dic h n r => exact ⟨"dict", .base (.dK ((k _ _ h).1 n)), fun t => by rw [(kit_all t).2.2.2.2.2.2]; cases t <;> rfl⟩
    | draw h d =>
      obtain ⟨u, hu, _, _, _, rfl, _⟩ := k.draw h d
      exact ⟨"dict", .base (.dK hu), fun t => by rw [(kit_all t).2.2.2.2.2.2]; cases t <;> rfl⟩
/-- isinstance(x, (T1, T2)) -/
def fIsi2 (t u : Ty6) : F1 := fun x P => x.d.plain = true ∧ P (.dat (.bl (x.d.isi t || x.d.isi u)))
theorem q_isi2 (t u : Ty6) {p p2 p3 p4 pos : Pos} {x1 : Nat} {a : Expr} {y z : Str} {da : DE} {fa : Bool} (hg : Gl X "isinstance") (hm : X.mg "isinstance" = none) (hg2 : Gl X y) (hm2 : X.mg y = none) (hv2 : bootBuiltins y = some (.type t.name)) (hg3 : Gl X z) (hm3 : X.mg z = none) (hv3 : bootBuiltins z = some (.type u.name)) (ha : PE X a (L X.K W fa da))
    (hn : y ≠ "__name__" := by decide) (hd : (y == ("__debug__" : Str)) = false := by decide) (hn3 : z ≠ "__name__" := by decide) (hd3 : (z == ("__debug__" : Str)) = false := by decide)
    (he : starEach [a, .Tuple [.Name y p2, .Name z p4] x1 p3] X.env = (false, eval a X.env) :: starEach [.Tuple [.Name y p2, .Name z p4] x1 p3] X.env := by rfl) (he2 : starEach [.Tuple [.Name y p2, .Name z p4] x1 p3] X.env = (false, eval (.Tuple [.Name y p2, .Name z p4] x1 p3) X.env) :: starEach [] X.env := by rfl)
    (hpl : (backTo pos (starEach [.Tuple [.Name y p2, .Name z p4] x1 p3] X.env)).any (·.1) = false := by rfl) :
    PE X (.Call (.Name "isinstance" p) [a, .Tuple [.Name y p2, .Name z p4] x1 p3] [] pos) (L X.K W true (dUn (fIsi2 t u) da)) := by
  refine imE (pe_callB call_isiT hg hm (by decide +kernel) (pa_cons ha (pa_cons (pe_tup (pa_cons (pe_bltn (v := .ty t.name) hg2 hm2 hv2 rfl hn hd) (pa_cons (pe_bltn (v := .ty u.name) hg3 hm3 hv3 rfl hn3 hd3) pa_nil))) pa_nil he2) he) (by decide) (by decide) he hpl) fun s H Q ⟨B, r, xc, P, k, en, h, hx, hq⟩ => ⟨B, r, xc, _, k, en, h, hx, fun x vx H1 B1 s1 rx _ q => ?_⟩
  obtain ⟨o, q⟩ := q
  refine ⟨by show 2 ≤ sizeLine; decide, fun tp ntp => ?_⟩
  have s2 : Step B1 H1 (upd B1 tp (.tup [.ty t.name, .ty u.name])) (upd H1 tp (.tup [.ty t.name, .ty u.name])) := .new s1.sub ntp
  have rx2 : RepV X.K (upd B1 tp (.tup [.ty t.name, .ty u.name])) (upd H1 tp (.tup [.ty t.name, .ty u.name])) x vx := by
    cases vx with
    | dat d => exact Rep.mono s2.kp rx
    | tmp c =>
      obtain ⟨p, rfl, n, w⟩ := rx
      have ne : p ≠ tp := fun e => by
        subst e
        cases c with
        | lst ds => obtain ⟨vs, h, _⟩ := w; rw [ntp] at h; cases h
        | dic ds => obtain ⟨vs, h, _⟩ := w; rw [ntp] at h; cases h
      exact ⟨p, rfl, by rw [upd_ne ne]; exact n, w.move s2.kp fun u hu => by rw [upd_ne ne]; exact hu⟩
  obtain ⟨n, ty, e⟩ := kit_rep2 s2.sub rx2 o fun a vs e h => by subst e; exact tup_ty a vs h
  refine ⟨x, tp, [.ty t.name, .ty u.name], .type n, [.type t.name, .type u.name], (vx.d.isi t || vx.d.isi u), rfl, upd_same, .cons (.ty _) (.cons (.ty _) .nil), ty, ?_, hq _ (.dat (.bl _)) _ _ (s1.trans s2) (.bl _) (fun _ => Fr.dat) q⟩
  refine kitAny_cons (kit_ty (e t)) (fun h => kitAny_cons (kit_ty (e u)) (fun h2 => by rw [h, h2]; rfl) fun h2 => by rw [h2]; simp) fun h => by rw [h]; rfl
theorem z020 (P : Val → Prop) (b : Bool) : (fStrD P (.bl b)) = P (.dat (.str (if b then "True" else "False"))) := rfl
end
end Dl
/-! Ml1: data with a store. Cells (lists, dicts, instances that are handed about and changed) stand in S; all else as in Dl. -/
namespace Ml
open PySem PySem.Spec PyProof.Rows L2 Dl LamX
/-- what stands in a cell -/
inductive Cell where
  | ct (c : Ct)
  | ins (C dx : Addr) (fs : List (Str × D))
  | own (a : Addr)
abbrev Sto := Addr → Option Cell
def up (S : Sto) (a : Addr) (c : Cell) : Sto := fun b => if b = a then some c else S b
theorem up_same {S : Sto} {a : Addr} {c : Cell} : up S a c a = some c := by unfold up; rw [if_pos rfl]
theorem up_ne {S : Sto} {a b : Addr} {c : Cell} (h : b ≠ a) : up S a c b = S b := by unfold up; rw [if_neg h]
theorem up_up {S : Sto} {a : Addr} {c d : Cell} : up (up S a c) a d = up S a d := by
  funext b; unfold up; split <;> rfl
theorem up_self {S : Sto} {a : Addr} {c : Cell} (h : S a = some c) : up S a c = S := by
  funext b; unfold up; split
  · rename_i e; rw [e, h]
  · rfl
def del (S : Sto) (a : Addr) : Sto := fun b => if b = a then none else S b
theorem del_same {S : Sto} {a : Addr} : del S a a = none := by unfold del; rw [if_pos rfl]
theorem del_ne {S : Sto} {a b : Addr} (h : b ≠ a) : del S a b = S b := by unfold del; rw [if_neg h]
theorem del_up {S : Sto} {a : Addr} {c : Cell} (h : S a = none) : del (up S a c) a = S := by
  funext b; unfold del up; split
  · rename_i e; rw [e, h]
  · rfl
section
variable (K : PySem.W.Frag) (B : Hp)
inductive RepF : List (Str × V) → List (Str × D) → Prop
  | nil : RepF [] []
  | cons {k : Str} {v : V} {vs : List (Str × V)} {d : D} {ds : List (Str × D)} (h : Rep K B v d) (r : RepF vs ds) : RepF ((k, v) :: vs) ((k, d) :: ds)
end
theorem RepF.mono {K : PySem.W.Frag} {B H : Hp} (f : Kp B H) : ∀ {vs : List (Str × V)} {ds : List (Str × D)}, RepF K B vs ds → RepF K H vs ds
  | _, _, .nil => .nil
  | _, _, .cons h r => .cons (h.mono f) (RepF.mono f r)
def CellRep (K : PySem.W.Frag) (B H : Hp) (a : Addr) : Cell → Prop
  | .ct c => RepC K B H a c
  | .ins C dx fs => ∃ vs, H a = some (.ins C dx vs) ∧ RepF K B vs fs
  | .own o => H a = some (.own o)
theorem CellRep.has {K : PySem.W.Frag} {B H : Hp} {a : Addr} {c : Cell} (h : CellRep K B H a c) : ∃ o, H a = some o ∧ (∀ ps, o ≠ .tbl ps) ∧ ∀ φ, o ≠ .ext φ := by
  cases c with
  | ct c =>
    cases c with
    | lst ds => obtain ⟨vs, e, _⟩ := h; exact ⟨_, e, fun _ z => (nomatch z), fun _ z => nomatch z⟩
    | dic ds => obtain ⟨vs, e, _⟩ := h; exact ⟨_, e, fun _ z => (nomatch z), fun _ z => nomatch z⟩
  | ins C dx fs => obtain ⟨vs, e, _⟩ := h; exact ⟨_, e, fun _ z => (nomatch z), fun _ z => nomatch z⟩
  | own o => exact ⟨_, h, fun _ z => (nomatch z), fun _ z => nomatch z⟩
theorem CellRep.move {K : PySem.W.Frag} {B H B' H' : Hp} {a : Addr} {c : Cell} (k : Kp B B') (e : ∀ o, H a = some o → H' a = some o) (h : CellRep K B H a c) : CellRep K B' H' a c := by
  cases c with
  | ct c => exact RepC.move k e h
  | ins C dx fs => obtain ⟨vs, q, r⟩ := h; exact ⟨vs, e _ q, r.mono k⟩
  | own o => exact e _ h
/-- the store is what stands in H, apart from what is shared -/
def StRep (K : PySem.W.Frag) (B H : Hp) (S : Sto) : Prop := ∀ a c, S a = some c → B a = none ∧ CellRep K B H a c
theorem StRep.fresh {K : PySem.W.Frag} {B H : Hp} {S : Sto} (r : StRep K B H S) {a : Addr} (h : H a = none) : S a = none := by
  cases e : S a with
  | none => rfl
  | some c => obtain ⟨o, q, _⟩ := (r a c e).2.has; rw [h] at q; cases q
/-- where tables of code objects stand -/
abbrev Tbs := List (Addr × Str)
def Tat (T : Tbs) (a : Addr) : Prop := ∃ q, (a, q) ∈ T
/-- no table, nothing that is known to its object alone -/
def Pl (T : Tbs) (a : Addr) (o : HO) : Prop := ¬ Tat T a ∧ ∀ φ, o ≠ .ext φ
section
variable (K : PySem.W.Frag) (T : Tbs)
/-- what an evaluation may change -/
structure SM (B H : Hp) (S : Sto) (B' H' : Hp) (S' : Sto) : Prop where
  kp : Kp B B'
  sub : Kp B' H'
  out : ∀ a o, H a = some o → Pl T a o → B a = none → S a = none → H' a = some o ∧ B' a = none ∧ S' a = none
  ext : ∀ a φ, H a = some (.ext φ) → H' a = some (.ext φ)
  tab : (∀ p ∈ T, B p.1 = none) → Tabs T H → Tabs T H'
  tn : Tabs T H → (∀ p ∈ T, B p.1 = none) → ∀ p ∈ T, B' p.1 = none
  has : ∀ a o, H a = some o → ∃ u, H' a = some u
  st : StRep K B' H' S'
structure Good (B H : Hp) (s : L2.St) (r : DEnv) (S : Sto) : Prop where
  kp : Kp B H
  en : EnvRep K B H s r
  st : StRep K B H S
  dj : ∀ a c, S a = some c → ¬ Owns s r a
  tb : Tabs T H
  tn : ∀ p ∈ T, B p.1 = none
/-- what a statement may change -/
structure SMS (B H : Hp) (S : Sto) (s : L2.St) (r : DEnv) (B' H' : Hp) (S' : Sto) (s' : L2.St) (r' : DEnv) : Prop where
  kp : Kp B B'
  out : ∀ a o, H a = some o → Pl T a o → B a = none → S a = none → ¬ Owns s r a → H' a = some o ∧ B' a = none ∧ S' a = none ∧ ¬ Owns s' r' a
  ext : ∀ a φ, H a = some (.ext φ) → H' a = some (.ext φ)
  has : ∀ a o, H a = some o → ∃ u, H' a = some u
  ow : ∀ a c, S a = some c → ¬ Owns s' r' a
  gd : Good K T B' H' s' r' S'
end
section
variable {K : PySem.W.Frag} {T : Tbs} {B H B' H' B1 H1 B2 H2 : Hp} {S S' S1 S2 : Sto} {σ σ' σ1 σ2 : L2.St} {r r' r1 r2 : DEnv}
theorem _root_.Dl.RepC.plain {p : Addr} {c : Ct} (h : RepC K B H p c) : ∃ o, H p = some o ∧ (∀ ps, o ≠ .tbl ps) ∧ ∀ φ, o ≠ .ext φ := by
  cases c with
  | lst ds => obtain ⟨vs, e, _⟩ := h; exact ⟨_, e, fun _ z => (nomatch z), fun _ z => nomatch z⟩
  | dic ds => obtain ⟨vs, e, _⟩ := h; exact ⟨_, e, fun _ z => (nomatch z), fun _ z => nomatch z⟩
theorem nta {a : Addr} {o : HO} (t : Tabs T H) (h : H a = some o) (n : ∀ ps, o ≠ .tbl ps) : ¬ Tat T a := fun ⟨q, m⟩ => by
  obtain ⟨ps, e, _⟩ := t _ m
  rw [h] at e
  exact n ps (Option.some.inj e)
theorem mv_ext {o : HO} {φ : Heap → Prop} (m : Mv o (.ext φ)) : False := by
  rcases m with ⟨_, _, _, _, e, _⟩ | ⟨_, _, e⟩ <;> cases e
theorem ext_of {a : Addr} {φ : Heap → Prop} (k : Kp B H) (k1 : Kp B B') (k2 : Kp B' H') (out : ∀ a o, H a = some o → B a = none → H' a = some o ∧ B' a = none) (h : H a = some (.ext φ)) : H' a = some (.ext φ) := by
  cases e : B a with
  | none => exact (out a _ h e).1
  | some o =>
    by_cases d : DrawO o
    · obtain ⟨u, hu, du⟩ := (k a o e).2 d
      rw [h] at hu
      cases hu
      exact (mv_ext du).elim
    · have h1 := (k a o e).1 d
      rw [h] at h1
      cases h1
      exact (k2 a _ ((k1 a _ e).1 d)).1 d
/-- a step that leaves the store alone -/
theorem _root_.Dl.Step.m (z : Step B H B' H') (k : Kp B H) (st : StRep K B H S) : SM K T B H S B' H' S := by
  have ke2 : ∀ a φ, H a = some (.ext φ) → H' a = some (.ext φ) := fun a φ h => ext_of k z.kp z.sub z.out h
  refine ⟨z.kp, z.sub, fun a o h _ b c => ⟨(z.out a o h b).1, (z.out a o h b).2, c⟩, ke2, fun n t p hp => ?_, fun t n p hp => let ⟨ps, h1, _⟩ := t p hp; (z.out _ _ h1 (n p hp)).2, fun a o h => z.has h, fun a c h => ?_⟩
  · obtain ⟨ps, h1, h2, h3⟩ := t p hp
    refine ⟨ps, (z.out _ _ h1 (n p hp)).1, h2, fun pos cv hc => ?_⟩
    obtain ⟨c, e1, e2⟩ := h3 pos cv hc
    exact ⟨c, e1, ke2 _ _ e2⟩
  · obtain ⟨n, r⟩ := st a c h
    obtain ⟨o, ho, _⟩ := r.has
    have q := z.out a o ho n
    exact ⟨q.2, r.move z.kp fun u hu => by rw [ho] at hu; cases hu; exact q.1⟩
theorem SM.refl (g : Kp B H) (st : StRep K B H S) : SM K T B H S B H S := ⟨.refl B, g, fun _ _ h _ b c => ⟨h, b, c⟩, fun _ _ h => h, fun _ t => t, fun _ n => n, fun _ o h => ⟨o, h⟩, st⟩
theorem SM.trans (a : SM K T B H S B1 H1 S1) (b : SM K T B1 H1 S1 B2 H2 S2) : SM K T B H S B2 H2 S2 :=
  ⟨a.kp.trans b.kp, b.sub, fun x o h t n m => let ⟨h1, n1, m1⟩ := a.out x o h t n m; b.out x o h1 t n1 m1, fun x φ h => b.ext x φ (a.ext x φ h), fun n t => b.tab (a.tn t n) (a.tab n t), fun t n => b.tn (a.tab n t) (a.tn t n), fun x o h => let ⟨u, hu⟩ := a.has x o h; b.has x u hu, b.st⟩
theorem SM.free (a : SM K T B H S B1 H1 S1) {x : Addr} (h : H1 x = none) : H x = none := by
  cases e : H x with
  | none => rfl
  | some o => obtain ⟨u, q⟩ := a.has x o e; rw [h] at q; cases q
theorem SM.fr {v : V} {x : Val} (a : SM K T B H S B1 H1 S1) (f : Fr H1 v x) : Fr H v x := fun p c e1 e2 => a.free (f p c e1 e2)
/-- a value, apart from the store -/
def RepM (K : PySem.W.Frag) (T : Tbs) (B H : Hp) (S : Sto) (v : V) (x : Val) : Prop := RepV K B H v x ∧ ∀ p c, v = .ref p → x = .tmp c → S p = none ∧ ¬ Tat T p
theorem RepM.step {v : V} {x : Val} (z : SM K T B H S B' H' S') (h : RepM K T B H S v x) : RepM K T B' H' S' v x := by
  obtain ⟨h, m⟩ := h
  cases x with
  | dat d => exact ⟨Rep.mono z.kp h, fun _ _ _ e => nomatch e⟩
  | tmp c =>
    obtain ⟨p, rfl, n, r⟩ := h
    obtain ⟨o, ho, t, f⟩ := r.plain
    obtain ⟨m1, m2⟩ := m p c rfl rfl
    have q := z.out p o ho ⟨m2, f⟩ n m1
    exact ⟨⟨p, rfl, q.2.1, r.move z.kp fun u hu => by rw [ho] at hu; cases hu; exact q.1⟩, fun p2 c2 e1 _ => by cases e1; exact ⟨q.2.2, m2⟩⟩
theorem RepM.fresh {v : V} {x : Val} (tb : Tabs T H) (st : StRep K B H S) (h : RepV K B' H' v x) (f : Fr H v x) : RepM K T B' H' S v x := ⟨h, fun p c e1 e2 => ⟨st.fresh (f p c e1 e2), fun ⟨q, m⟩ => by
  obtain ⟨ps, e, _⟩ := tb _ m
  have e : H p = some (.tbl ps) := e
  rw [f p c e1 e2] at e
  cases e⟩⟩
theorem RepM.dat {v : V} {d : D} (h : Rep K B v d) : RepM K T B H S v (.dat d) := ⟨h, fun _ _ _ e => nomatch e⟩
theorem Good.owned (g : Good K T B H σ r S) {a : Addr} (h : Owns σ r a) : ∃ o, H a = some o ∧ Pl T a o ∧ B a = none ∧ S a = none := by
  obtain ⟨i, c, h1, h2⟩ := id h
  obtain ⟨v, q, p, rfl, n, w⟩ := g.en.at_ i _ h1
  rw [h2] at q
  cases q
  obtain ⟨o, ho, t, f⟩ := w.plain
  refine ⟨o, ho, ⟨nta g.tb ho t, f⟩, n, ?_⟩
  cases e : S a with
  | none => rfl
  | some c => exact absurd h (g.dj a c e)
theorem Good.cell (g : Good K T B H σ r S) {a : Addr} {c : Cell} (h : S a = some c) : ∃ o, H a = some o ∧ Pl T a o ∧ B a = none := by
  obtain ⟨n, q⟩ := g.st a c h
  obtain ⟨o, ho, t, f⟩ := q.has
  exact ⟨o, ho, ⟨nta g.tb ho t, f⟩, n⟩
theorem Good.at_ (g : Good K T B H σ r S) {i : Nat} {x : Val} (h : lk r i = some x) : ∃ v, σ[i]? = some (some v) ∧ RepM K T B H S v x := by
  obtain ⟨v, q, w⟩ := g.en.at_ i x h
  refine ⟨v, q, w, fun p c e1 e2 => ?_⟩
  subst e1 e2
  obtain ⟨_, _, t, _, m⟩ := g.owned ⟨i, c, h, q⟩
  exact ⟨m, t.1⟩
theorem Good.step (z : SM K T B H S B' H' S') (g : Good K T B H σ r S) : Good K T B' H' σ r S' := by
  refine ⟨z.sub, ⟨g.en.len, fun i x h => ?_, g.en.dis⟩, z.st, fun a c h ow => ?_, z.tab g.tn g.tb, z.tn g.tb g.tn⟩
  · obtain ⟨v, q, w⟩ := g.at_ h
    exact ⟨v, q, (w.step z).1⟩
  · obtain ⟨o, ho, t, n, m⟩ := g.owned ow
    have q := z.out a o ho t n m
    rw [h] at q
    cases q.2.2
theorem SM.s (z : SM K T B H S B' H' S') (g : Good K T B H σ r S) : SMS K T B H S σ r B' H' S' σ r :=
  ⟨z.kp, fun a o h t n m w => let q := z.out a o h t n m; ⟨q.1, q.2.1, q.2.2, w⟩, z.ext, z.has, g.dj, g.step z⟩
theorem SMS.refl (g : Good K T B H σ r S) : SMS K T B H S σ r B H S σ r := ⟨.refl B, fun _ _ h _ n m w => ⟨h, n, m, w⟩, fun _ _ h => h, fun _ o h => ⟨o, h⟩, g.dj, g⟩
theorem SMS.trans (g : Good K T B H σ r S) (a : SMS K T B H S σ r B1 H1 S1 σ1 r1) (b : SMS K T B1 H1 S1 σ1 r1 B2 H2 S2 σ2 r2) : SMS K T B H S σ r B2 H2 S2 σ2 r2 :=
  ⟨a.kp.trans b.kp, fun x o h t n m w => let ⟨h1, n1, m1, w1⟩ := a.out x o h t n m w; b.out x o h1 t n1 m1 w1, fun x φ h => b.ext x φ (a.ext x φ h), fun x o h => let ⟨u, hu⟩ := a.has x o h; b.has x u hu, fun x c h ow => by
    obtain ⟨o, ho, t, n⟩ := g.cell h
    obtain ⟨u, hu⟩ := a.has x o ho
    cases e : S1 x with
    | some c1 => exact b.ow x c1 e ow
    | none =>
      cases e2 : B1 x with
      | some u2 =>
        obtain ⟨u3, h3⟩ := b.kp.some e2
        obtain ⟨_, _, _, n2, _⟩ := b.gd.owned ow
        rw [n2] at h3
        cases h3
      | none =>
        refine (b.out x u hu ⟨t.1, fun φ z => ?_⟩ e2 e (a.ow x c h)).2.2.2 ow
        subst z
        have e3 := b.ext x φ hu
        obtain ⟨o2, h2, t2, _⟩ := b.gd.owned ow
        rw [e3] at h2
        cases h2
        exact t2.2 φ rfl, b.gd⟩
/-- what a value's data is, where it is a cell: what stands there -/
def vw (S : Sto) : Val → Val
  | .dat (.obj a) => match S a with
    | some (.ct c) => .tmp c
    | _ => .dat (.obj a)
  | x => x
theorem vw_rep {v : V} {x : Val} (st : StRep K B H S) (h : RepV K B H v x) : RepV K B H v (vw S x) := by
  cases x with
  | tmp c => exact h
  | dat d =>
    cases d with
    | obj a =>
      show RepV K B H v (match S a with
        | some (.ct c) => .tmp c
        | _ => .dat (.obj a))
      split
      · rename_i c e
        cases h
        obtain ⟨n, q⟩ := st a _ e
        exact ⟨a, rfl, n, q⟩
      · exact h
    | _ => exact h
theorem vw_at {a : Addr} {c : Ct} (h : S a = some (.ct c)) : vw S (.dat (.obj a)) = .tmp c := by
  show (match S a with
    | some (.ct c) => Val.tmp c
    | _ => .dat (.obj a)) = _
  rw [h]
end
end Ml
/-! Ml2: expressions read by data with a store. -/
namespace Ml
open PySem PySem.Spec PyProof.Rows L2 Dl LamX
abbrev MX := Exc → DEnv → Sto → Prop
abbrev ME := MX → DEnv → Sto → (Val → Sto → Prop) → Prop
abbrev MT := MX → DEnv → Sto → (Bool → Sto → Prop) → Prop
abbrev MA := MX → DEnv → Sto → (List D → Sto → Prop) → Prop
abbrev MO := MX → DEnv → Sto → (Option Int → Sto → Prop) → Prop
/-- no exception but such as are wished for -/
def Hx (K : PySem.W.Frag) (T : Tbs) (W : WX) (xc : MX) (B H : Hp) (S : Sto) (s : L2.St) (r : DEnv) : Prop := ∀ cls d e H' B' S', SM K T B H S B' H' S' → ExcRep K B' cls d e → xc e r S' → W cls d s H'
theorem Hx.on {K : PySem.W.Frag} {T : Tbs} {W : WX} {xc : MX} {B H B1 H1 : Hp} {S S1 : Sto} {s : L2.St} {r : DEnv} (h : Hx K T W xc B H S s r) (z : SM K T B H S B1 H1 S1) : Hx K T W xc B1 H1 S1 s r := fun cls d e H' B' S' z2 => h cls d e H' B' S' (z.trans z2)
def LM (K : PySem.W.Frag) (T : Tbs) (W : WX) (fr : Bool) (me : ME) : TE := fun s H Q => ∃ B r S xc P, Good K T B H s r S ∧ me xc r S P ∧ Hx K T W xc B H S s r ∧
  ∀ v x H' B' S', SM K T B H S B' H' S' → RepM K T B' H' S' v x → (fr = true → Fr H v x) → P x S' → Q v H'
def LMT (K : PySem.W.Frag) (T : Tbs) (W : WX) (mt : MT) : TT := fun s H Q => ∃ B r S xc P, Good K T B H s r S ∧ mt xc r S P ∧ Hx K T W xc B H S s r ∧
  ∀ b H' B' S', SM K T B H S B' H' S' → P b S' → Q b H'
def LMA (K : PySem.W.Frag) (T : Tbs) (W : WX) (ma : MA) : TA := fun s H Q => ∃ B r S xc P, Good K T B H s r S ∧ ma xc r S P ∧ Hx K T W xc B H S s r ∧
  ∀ vs ds H' B' S', SM K T B H S B' H' S' → RepL K B' vs ds → P ds S' → Q vs H'
def LMO (K : PySem.W.Frag) (T : Tbs) (W : WX) (mo : MO) : TO := fun s H Q => ∃ B r S xc P, Good K T B H s r S ∧ mo xc r S P ∧ Hx K T W xc B H S s r ∧
  ∀ b H' B' S', SM K T B H S B' H' S' → P b S' → Q b H'
section
variable {X : Cx} {T : Tbs} {W : WX}
/-! ### lifted readings -/
def mU (de : DE) : ME := fun xc r S P => de (fun e r => xc e r S) r fun v => P v S
def mUT (dt : DT) : MT := fun xc r S P => dt (fun e r => xc e r S) r fun v => P v S
def mUA (da : DA) : MA := fun xc r S P => da (fun e r => xc e r S) r fun v => P v S
theorem m_up {e : Expr} {de : DE} (h : PE X e (L X.K W true de)) : PE X e (LM X.K T W true (mU de)) :=
  imE h fun s H Q ⟨B, r, S, xc, P, g, h, hx, hq⟩ => ⟨B, r, _, _, g.kp, g.en, h, fun cls d e H' B' z => hx cls d e H' B' S (z.m g.kp g.st), fun v x H' B' z rv fr p => hq v x H' B' S (z.m g.kp g.st) (RepM.fresh g.tb g.st rv (fr rfl)) fr p⟩
theorem m_upT {e : Expr} {dt : DT} (h : PT X e (LT X.K W dt)) : PT X e (LMT X.K T W (mUT dt)) :=
  imT h fun s H Q ⟨B, r, S, xc, P, g, h, hx, hq⟩ => ⟨B, r, _, _, g.kp, g.en, h, fun cls d e H' B' z => hx cls d e H' B' S (z.m g.kp g.st), fun b H' B' z p => hq b H' B' S (z.m g.kp g.st) p⟩
theorem m_upA {es : List Expr} {da : DA} (h : PA X es (LA X.K W da)) : PA X es (LMA X.K T W (mUA da)) :=
  imA h fun s H Q ⟨B, r, S, xc, P, g, h, hx, hq⟩ => ⟨B, r, _, _, g.kp, g.en, h, fun cls d e H' B' z => hx cls d e H' B' S (z.m g.kp g.st), fun vs ds H' B' z rl p => hq vs ds H' B' S (z.m g.kp g.st) rl p⟩
theorem m_weak {e : Expr} {de : ME} (h : PE X e (LM X.K T W true de)) : PE X e (LM X.K T W false de) :=
  imE h fun s H Q ⟨B, r, S, xc, P, g, d, hx, hq⟩ => ⟨B, r, S, xc, P, g, d, hx, fun v x H' B' S' st rv _ p => hq v x H' B' S' st rv (fun z => nomatch z) p⟩
/-! ### names -/
def mVar (i : Nat) : ME := fun _ r S P => match lk r i with
  | some x => P x S
  | none => False
def mVarM (i : Nat) : ME := fun _ r S P => match lk r i with
  | some (.dat d) => P (.dat d) S
  | _ => False
theorem m_var (i : Nat) {x : Str} {pos : Pos} (hN : X.N[i]? = some x := by rfl) (hv : Vis X.env.scope x := by first | exact Or.inl rfl | exact Or.inr (Or.inl rfl) | exact Or.inr (Or.inr rfl)) (hd : (x == ("__debug__" : Str)) = false := by decide)
    (hcd : (x == ("__classdict__" : Str)) = false := by decide) : PE X (.Name x pos) (LM X.K T W false (mVar i)) := imE (pv i hN hv hd hcd) fun s H Q ⟨B, r, S, xc, P, g, p, hx, hq⟩ => by
  unfold mVar at p
  cases e : lk r i with
  | none => rw [e] at p; exact p.elim
  | some y =>
    rw [e] at p
    obtain ⟨v, h1, h2⟩ := g.at_ e
    exact ⟨v, h1, hq v y H B S (.refl g.kp g.st) h2 (fun z => nomatch z) p⟩
theorem m_varM (i : Nat) {x : Str} {pos : Pos} (hN : X.N[i]? = some x := by rfl) (hv : Vis X.env.scope x := by first | exact Or.inl rfl | exact Or.inr (Or.inl rfl) | exact Or.inr (Or.inr rfl)) (hd : (x == ("__debug__" : Str)) = false := by decide)
    (hcd : (x == ("__classdict__" : Str)) = false := by decide) : PE X (.Name x pos) (LM X.K T W true (mVarM i)) := imE (pv i hN hv hd hcd) fun s H Q ⟨B, r, S, xc, P, g, p, hx, hq⟩ => by
  unfold mVarM at p
  cases e : lk r i with
  | none => rw [e] at p; exact p.elim
  | some y =>
    rw [e] at p
    cases y with
    | tmp c => exact p.elim
    | dat d =>
      obtain ⟨v, h1, h2⟩ := g.at_ e
      exact ⟨v, h1, hq v _ H B S (.refl g.kp g.st) h2 (fun _ => Fr.dat) p⟩
/-! ### operations; where a value is a cell, of what stands there -/
def mOp (f : F2) (da db : ME) : ME := fun xc r S P => da xc r S fun x S1 => db xc r S1 fun y S2 => f (vw S2 x) (vw S2 y) fun z => P z S2
def mUn (f : F1) (da : ME) : ME := fun xc r S P => da xc r S fun x S1 => f (vw S1 x) fun z => P z S1
theorem lm_op {rr : R2} {f : F2} {da db : ME} {fa fb : Bool} (hr : RelR X.K rr f) (s : L2.St) (H : Hp) (Q : VK) (h : LM X.K T W true (mOp f da db) s H Q) : tOp rr (LM X.K T W fa da) (LM X.K T W fb db) s H Q := by
  obtain ⟨B, r, S, xc, P, g, h, hx, hq⟩ := h
  refine ⟨B, r, S, xc, _, g, h, hx, fun x vx H1 B1 S1 z1 rx _ h1 => ?_⟩
  refine ⟨B1, r, S1, xc, _, g.step z1, h1, hx.on z1, fun y vy H2 B2 S2 z2 ry _ h2 => ?_⟩
  have g2 := (g.step z1).step z2
  exact hr B2 H2 x y _ _ _ Q g2.kp (vw_rep g2.st (rx.step z2).1) (vw_rep g2.st ry.1) h2 fun v w H3 B3 z3 rv fr p =>
    hq v w H3 B3 S2 ((z1.trans z2).trans (z3.m g2.kp g2.st)) (RepM.fresh g2.tb g2.st rv fr) (fun _ => z1.fr (z2.fr fr)) p
theorem lm_un {rr : V → Hp → VK → Prop} {f : F1} {da : ME} {fa : Bool} (hr : RelU X.K rr f) (s : L2.St) (H : Hp) (Q : VK) (h : LM X.K T W true (mUn f da) s H Q) : tUn rr (LM X.K T W fa da) s H Q := by
  obtain ⟨B, r, S, xc, P, g, h, hx, hq⟩ := h
  refine ⟨B, r, S, xc, _, g, h, hx, fun x vx H1 B1 S1 z1 rx _ h1 => ?_⟩
  have g1 := g.step z1
  exact hr B1 H1 x _ _ Q g1.kp (vw_rep g1.st rx.1) h1 fun v w H3 B3 z3 rv fr p => hq v w H3 B3 S1 (z1.trans (z3.m g1.kp g1.st)) (RepM.fresh g1.tb g1.st rv fr) (fun _ => z1.fr fr) p
theorem mq_op {a b : Expr} {op : Operator} {pos : Pos} {rr : R2} {f : F2} {da db : ME} {fa fb : Bool} (ho : OpR X (binaryOp op) rr) (hr : RelR X.K rr f) (ha : PE X a (LM X.K T W fa da)) (hb : PE X b (LM X.K T W fb db)) :
    PE X (.BinOp a op b pos) (LM X.K T W true (mOp f da db)) := imE (pe_op ho ha hb) (lm_op hr)
theorem mq_un {a : Expr} {op : UnaryOp} {pos : Pos} {rr : V → Hp → VK → Prop} {f : F1} {da : ME} {fa : Bool} (ho : UnR X (unaryOp op) rr) (hr : RelU X.K rr f) (ha : PE X a (LM X.K T W fa da)) :
    PE X (.UnaryOp op a pos) (LM X.K T W true (mUn f da)) := imE (pe_un ho ha) (lm_un hr)
theorem mq_cmp {a b : Expr} {op : CmpOp} {pos : Pos} {rr : R2} {f : F2} {da db : ME} {fa fb : Bool} (ho : OpR X (compareOp op) rr) (hr : RelR X.K rr f) (ha : PE X a (LM X.K T W fa da)) (hb : PE X b (LM X.K T W fb db)) (hm : behindInMarks op b = false) :
    PE X (.Compare a [op] [b] pos) (LM X.K T W true (mOp f da db)) := imE (pe_cmpR ho ha hb hm) (lm_op hr)
theorem mq_ix {a b : Expr} {pos : Pos} {rr : R2} {f : F2} {da db : ME} {fa fb : Bool} (ho : IxR X rr) (hr : RelR X.K rr f) (ha : PE X a (LM X.K T W fa da)) (hb : PE X b (LM X.K T W fb db)) (hs : PlainIx b := by exact fun _ _ => rfl) :
    PE X (.Subscript a b pos) (LM X.K T W true (mOp f da db)) := imE (pe_ix ho ha hb hs) (lm_op hr)
theorem mq_sub1 {a b : Expr} {pos : Pos} {da db : ME} {fa fb : Bool} (ha : PE X a (LM X.K T W fa da)) (hb : PE X b (LM X.K T W fb db)) (hs : PlainIx b := by exact fun _ _ => rfl) : PE X (.Subscript a b pos) (LM X.K T W true (mOp fIx da db)) := mq_ix ix_seq rel_ix ha hb hs
/-! ### chains -/
def mChain (f g : F2) (da db dc : ME) : ME := fun xc r S P => da xc r S fun x S1 => db xc r S1 fun y S2 => f (vw S2 x) (vw S2 y) fun z => asB (fun k => ifB k (dc xc r S2 fun w S3 => g (vw S3 y) (vw S3 w) fun z => P z S3) (P (.dat (.bl false)) S2)) z.d
theorem lm_chain {r1 r2 : R2} {f g : F2} {da db dc : ME} {fa fb fc : Bool} (h1 : RelR X.K r1 f) (h2 : RelR X.K r2 g) (s : L2.St) (H : Hp) (Q : VK) (h : LM X.K T W true (mChain f g da db dc) s H Q) :
    tChain r1 r2 (LM X.K T W fa da) (LM X.K T W fb db) (LM X.K T W fc dc) s H Q := by
  obtain ⟨B, r, S, xc, P, g0, h, hx, hq⟩ := h
  refine ⟨B, r, S, xc, _, g0, h, hx, fun x vx H1 B1 S1 z1 rx _ q1 => ?_⟩
  refine ⟨B1, r, S1, xc, _, g0.step z1, q1, hx.on z1, fun y vy H2 B2 S2 z2 ry _ q2 => ?_⟩
  have g2 := (g0.step z1).step z2
  refine h1 B2 H2 x y _ _ _ _ g2.kp (vw_rep g2.st (rx.step z2).1) (vw_rep g2.st ry.1) q2 fun z vz H3 B3 z3 rz _ q3 => ?_
  obtain ⟨kk, e, q3⟩ := asB_elim q3
  have z3m := z3.m (T := T) g2.kp g2.st
  have g3 := g2.step z3m
  have z13 := (z1.trans z2).trans z3m
  refine ⟨kk, rv_bl rz e, ?_⟩
  cases kk with
  | true =>
    unfold ifB at q3; rw [if_pos rfl] at q3 ⊢
    refine ⟨B3, r, S2, xc, _, g3, q3, hx.on z13, fun w vw' H4 B4 S4 z4 rw4 _ q4 => ?_⟩
    have g4 := g3.step z4
    exact h2 B4 H4 y w _ _ _ _ g4.kp (vw_rep g4.st ((ry.step z3m).step z4).1) (vw_rep g4.st rw4.1) q4 fun v z' H5 B5 z5 rv fr p =>
      hq v z' H5 B5 S4 ((z13.trans z4).trans (z5.m g4.kp g4.st)) (RepM.fresh g4.tb g4.st rv fr) (fun _ => z13.fr (z4.fr fr)) p
  | false =>
    unfold ifB at q3; rw [if_neg Bool.false_ne_true] at q3 ⊢
    exact hq _ (.dat (.bl false)) H3 B3 S2 z13 (.dat (Rep.bl false)) (fun _ => Fr.dat) q3
theorem mq_chain {a b c : Expr} {op op' : CmpOp} {pos : Pos} {r1 r2 : R2} {f g : F2} {da db dc : ME} {fa fb fc : Bool} (o1 : OpR X (compareOp op) r1) (o2 : OpR X (compareOp op') r2) (h1 : RelR X.K r1 f) (h2 : RelR X.K r2 g)
    (ha : PE X a (LM X.K T W fa da)) (hb : PE X b (LM X.K T W fb db)) (hc : PE X c (LM X.K T W fc dc)) (hm : lastMarks [op, op'] [b, c] = false := by with_unfolding_all rfl) :
    PE X (.Compare a [op, op'] [b, c] pos) (LM X.K T W true (mChain f g da db dc)) := imE (pe_chain o1 o2 ha hb hc hm) (lm_chain h1 h2)
/-! ### tests -/
def mB (de : ME) : MT := fun xc r S P => de xc r S fun x S1 => asB (fun b => P b S1) x.d
def mTru (de : ME) : MT := fun xc r S P => de xc r S fun x S1 => fTru (vw S1 x) fun b => P b S1
theorem lm_B {de : ME} {fa : Bool} (s : L2.St) (H : Hp) (Q : Bool → Hp → Prop) (h : LMT X.K T W (mB de) s H Q) : tB (LM X.K T W fa de) s H Q := by
  obtain ⟨B, r, S, xc, P, g, h, hx, hq⟩ := h
  refine ⟨B, r, S, xc, _, g, h, hx, fun x vx H1 B1 S1 z1 rx _ q => ?_⟩
  obtain ⟨b, e, q⟩ := asB_elim q
  exact ⟨b, rv_bl rx.1 e, hq b H1 B1 S1 z1 q⟩
theorem mq_test {e : Expr} {de : ME} {fa : Bool} (h : PE X e (LM X.K T W fa de)) (he : ∀ whole, isTrue e X.env whole = (do let v ← whole; standAt e.pos; holding [v] (truthy v)) := by intro _; rfl) : PT X e (LMT X.K T W (mB de)) := imT (pt_val h he) lm_B
theorem mqt_cmp {a b : Expr} {op : CmpOp} {pos : Pos} {rr : R2} {f : F2} {da db : ME} {fa fb : Bool} (ho : OpR X (compareOp op) rr) (hr : RelR X.K rr f) (ha : PE X a (LM X.K T W fa da)) (hb : PE X b (LM X.K T W fb db)) (hm : behindInMarks op b = false) :
    PT X (.Compare a [op] [b] pos) (LMT X.K T W (mB (mOp f da db))) := imT (pt_cmpR ho ha hb hm) fun s H Q h => lm_op hr s H _ (lm_B (fa := true) s H Q h)
theorem mqt_chain {a b c : Expr} {op op' : CmpOp} {pos : Pos} {r1 r2 : R2} {f g : F2} {da db dc : ME} {fa fb fc : Bool} (o1 : OpR X (compareOp op) r1) (o2 : OpR X (compareOp op') r2) (h1 : RelR X.K r1 f) (h2 : RelR X.K r2 g)
    (ha : PE X a (LM X.K T W fa da)) (hb : PE X b (LM X.K T W fb db)) (hc : PE X c (LM X.K T W fc dc)) (hm : lastMarks [op, op'] [b, c] = false := by with_unfolding_all rfl) :
    PT X (.Compare a [op, op'] [b, c] pos) (LMT X.K T W (mB (mChain f g da db dc))) := imT (pt_chain o1 o2 ha hb hc hm) fun s H Q h => lm_chain h1 h2 s H _ (lm_B (fa := true) s H Q h)
theorem tru_rel {K : PySem.W.Frag} {B H : Hp} {x : V} {vx : Val} {P : Bool → Prop} (k : Kp B H) (rx : RepV K B H x vx) (q : fTru vx P) : ∃ b, TruV K x H b ∧ P b := by
  unfold fTru fTruD at q
  split at q
  · rename_i e
    exact ⟨false, by rw [rv_non rx e]; rfl, q⟩
  · rename_i b e
    exact ⟨b, by rw [rv_bl rx e]; rfl, q⟩
  · rename_i i e
    exact ⟨i != 0, by rw [rv_int rx e]; rfl, q⟩
  · rename_i y e
    exact ⟨(y.length : Int) != 0, by rw [rv_str rx e]; exact ⟨q.1, rfl⟩, q.2⟩
  · rename_i l e
    obtain ⟨p, vs, rfl, _, hp, rr⟩ := rv_tup k rx e
    exact ⟨!l.isEmpty, .inr (.inl ⟨vs, hp, by rw [rr.isEmpty]⟩), q⟩
  · rename_i l e
    obtain ⟨p, vs, rfl, hp, rr⟩ := rv_lst k rx e
    exact ⟨!l.isEmpty, .inl ⟨vs, .inl (.inl hp), by rw [rr.isEmpty]⟩, q⟩
  · rename_i l e
    obtain ⟨p, vs, rfl, hp, rr⟩ := rv_dic k rx e
    exact ⟨!l.isEmpty, .inr (.inr ⟨vs, hp, by rw [rr.isEmpty]⟩), q⟩
  · rename_i l e
    obtain ⟨p, rfl, hp⟩ := rv_scr k rx e
    exact ⟨!l.isEmpty, .inl ⟨_, hp, by cases l <;> rfl⟩, q⟩
  · exact q.elim
theorem mq_truth {e : Expr} {de : ME} {fa : Bool} (h : PE X e (LM X.K T W fa de)) (he : ∀ whole, isTrue e X.env whole = (do let v ← whole; standAt e.pos; holding [v] (truthy v)) := by intro _; rfl) : PT X e (LMT X.K T W (mTru de)) := by
  refine imT (pt_truth h he) fun s H Q ⟨B, r, S, xc, P, g, h, hx, hq⟩ => ⟨B, r, S, xc, _, g, h, hx, fun x vx H1 B1 S1 z1 rx _ q => ?_⟩
  obtain ⟨b, t, p⟩ := tru_rel z1.sub (vw_rep z1.st rx.1) q
  exact ⟨b, t, hq _ H1 B1 S1 z1 p⟩
def mAnd (ta tb : MT) : MT := fun xc r S P => ta xc r S fun c S1 => ifB c (tb xc r S1 P) (P false S1)
def mOr (ta tb : MT) : MT := fun xc r S P => ta xc r S fun c S1 => ifB c (P true S1) (tb xc r S1 P)
def mNot (ta : MT) : MT := fun xc r S P => ta xc r S fun c S1 => P (!c) S1
theorem lm_and {ta tb : MT} (s : L2.St) (H : Hp) (Q : Bool → Hp → Prop) (h : LMT X.K T W (mAnd ta tb) s H Q) : tAnd (LMT X.K T W ta) (LMT X.K T W tb) s H Q := by
  obtain ⟨B, r, S, xc, P, g, h, hx, hq⟩ := h
  refine ⟨B, r, S, xc, _, g, h, hx, fun c H1 B1 S1 z1 q => ?_⟩
  cases c with
  | true =>
    unfold ifB at q; rw [if_pos rfl] at q ⊢
    exact ⟨B1, r, S1, xc, P, g.step z1, q, hx.on z1, fun b H2 B2 S2 z2 p => hq b H2 B2 S2 (z1.trans z2) p⟩
  | false =>
    unfold ifB at q; rw [if_neg Bool.false_ne_true] at q ⊢
    exact hq _ H1 B1 S1 z1 q
theorem lm_or {ta tb : MT} (s : L2.St) (H : Hp) (Q : Bool → Hp → Prop) (h : LMT X.K T W (mOr ta tb) s H Q) : tOr (LMT X.K T W ta) (LMT X.K T W tb) s H Q := by
  obtain ⟨B, r, S, xc, P, g, h, hx, hq⟩ := h
  refine ⟨B, r, S, xc, _, g, h, hx, fun c H1 B1 S1 z1 q => ?_⟩
  cases c with
  | true =>
    unfold ifB at q; rw [if_pos rfl] at q ⊢
    exact hq _ H1 B1 S1 z1 q
  | false =>
    unfold ifB at q; rw [if_neg Bool.false_ne_true] at q ⊢
    exact ⟨B1, r, S1, xc, P, g.step z1, q, hx.on z1, fun b H2 B2 S2 z2 p => hq b H2 B2 S2 (z1.trans z2) p⟩
theorem mq_not {e : Expr} {pos : Pos} {ta : MT} (h : PT X e (LMT X.K T W ta)) : PT X (.UnaryOp .Not e pos) (LMT X.K T W (mNot ta)) :=
  imT (pt_not h) fun s H Q ⟨B, r, S, xc, P, g, h, hx, hq⟩ => ⟨B, r, S, xc, _, g, h, hx, fun c H1 B1 S1 z1 q => hq _ H1 B1 S1 z1 q⟩
theorem mqw_and {a b : Expr} {rest : List Expr} {pos : Pos} {ta tb : MT} (ha : PT X a (LMT X.K T W ta)) (hb : PW X (.BoolOp .And (b :: rest) pos) (LMT X.K T W tb)) : PW X (.BoolOp .And (a :: b :: rest) pos) (LMT X.K T W (mAnd ta tb)) := imW (pw_and ha hb) lm_and
theorem mqw_or {a b : Expr} {rest : List Expr} {pos : Pos} {ta tb : MT} (ha : PT X a (LMT X.K T W ta)) (hb : PW X (.BoolOp .Or (b :: rest) pos) (LMT X.K T W tb)) : PW X (.BoolOp .Or (a :: b :: rest) pos) (LMT X.K T W (mOr ta tb)) := imW (pw_or ha hb) lm_or
def mAndV (da db : ME) : ME := fun xc r S P => da xc r S fun x S1 => asB (fun c => ifB c (db xc r S1 P) (P (.dat (.bl false)) S1)) x.d
def mOrV (da db : ME) : ME := fun xc r S P => da xc r S fun x S1 => asB (fun c => ifB c (P (.dat (.bl true)) S1) (db xc r S1 P)) x.d
theorem mq_andV {a b : Expr} {rest : List Expr} {pos : Pos} {da db : ME} {fa : Bool} (ha : PE X a (LM X.K T W fa da)) (hb : PE X (.BoolOp .And (b :: rest) pos) (LM X.K T W true db)) : PE X (.BoolOp .And (a :: b :: rest) pos) (LM X.K T W true (mAndV da db)) := by
  refine imE (pe_and ha hb) fun s H Q ⟨B, r, S, xc, P, g, h, hx, hq⟩ => ⟨B, r, S, xc, _, g, h, hx, fun x vx H1 B1 S1 z1 rx _ q => ?_⟩
  obtain ⟨c, e, q⟩ := asB_elim q
  refine ⟨c, rv_bl rx.1 e, ?_⟩
  cases c with
  | true =>
    unfold ifB at q; rw [if_pos rfl] at q ⊢
    exact ⟨B1, r, S1, xc, P, g.step z1, q, hx.on z1, fun v x H2 B2 S2 z2 rv fr p => hq v x H2 B2 S2 (z1.trans z2) rv (fun z => z1.fr (fr z)) p⟩
  | false =>
    unfold ifB at q; rw [if_neg Bool.false_ne_true] at q ⊢
    exact hq _ (.dat (.bl false)) H1 B1 S1 z1 (.dat (Rep.bl false)) (fun _ => Fr.dat) q
theorem mq_orV {a b : Expr} {rest : List Expr} {pos : Pos} {da db : ME} {fa : Bool} (ha : PE X a (LM X.K T W fa da)) (hb : PE X (.BoolOp .Or (b :: rest) pos) (LM X.K T W true db)) : PE X (.BoolOp .Or (a :: b :: rest) pos) (LM X.K T W true (mOrV da db)) := by
  refine imE (pe_or ha hb) fun s H Q ⟨B, r, S, xc, P, g, h, hx, hq⟩ => ⟨B, r, S, xc, _, g, h, hx, fun x vx H1 B1 S1 z1 rx _ q => ?_⟩
  obtain ⟨c, e, q⟩ := asB_elim q
  refine ⟨c, rv_bl rx.1 e, ?_⟩
  cases c with
  | true =>
    unfold ifB at q; rw [if_pos rfl] at q ⊢
    exact hq _ (.dat (.bl true)) H1 B1 S1 z1 (.dat (Rep.bl true)) (fun _ => Fr.dat) q
  | false =>
    unfold ifB at q; rw [if_neg Bool.false_ne_true] at q ⊢
    exact ⟨B1, r, S1, xc, P, g.step z1, q, hx.on z1, fun v x H2 B2 S2 z2 rv fr p => hq v x H2 B2 S2 (z1.trans z2) rv (fun z => z1.fr (fr z)) p⟩
def mNotV (da : ME) : ME := fun xc r S P => da xc r S fun x S1 => asB (fun c => P (.dat (.bl (!c))) S1) x.d
theorem mq_notV {a : Expr} {pos : Pos} {da : ME} {fa : Bool} (ha : PE X a (LM X.K T W fa da)) : PE X (.UnaryOp .Not a pos) (LM X.K T W true (mNotV da)) := by
  refine imE (pe_not ha) fun s H Q ⟨B, r, S, xc, P, g, h, hx, hq⟩ => ⟨B, r, S, xc, _, g, h, hx, fun x vx H1 B1 S1 z1 rx _ q => ?_⟩
  obtain ⟨c, e, q⟩ := asB_elim q
  exact ⟨c, rv_bl rx.1 e, hq _ (.dat (.bl (!c))) H1 B1 S1 z1 (.dat (Rep.bl _)) (fun _ => Fr.dat) q⟩
def mIf (t : MT) (da db : ME) : ME := fun xc r S P => t xc r S fun c S1 => ifB c (da xc r S1 P) (db xc r S1 P)
theorem mq_ifExp {c a b : Expr} {pos : Pos} {t : MT} {da db : ME} {f : Bool} (hc : PT X c (LMT X.K T W t)) (ha : PE X a (LM X.K T W f da)) (hb : PE X b (LM X.K T W f db)) : PE X (.IfExp c a b pos) (LM X.K T W f (mIf t da db)) := by
  refine imE (pe_ifExp hc ha hb) fun s H Q ⟨B, r, S, xc, P, g, h, hx, hq⟩ => ⟨B, r, S, xc, _, g, h, hx, fun c H1 B1 S1 z1 q => ?_⟩
  cases c with
  | true =>
    unfold ifB at q; rw [if_pos rfl] at q ⊢
    exact ⟨B1, r, S1, xc, P, g.step z1, q, hx.on z1, fun v x H2 B2 S2 z2 rv fr p => hq v x H2 B2 S2 (z1.trans z2) rv (fun z => z1.fr (fr z)) p⟩
  | false =>
    unfold ifB at q; rw [if_neg Bool.false_ne_true] at q ⊢
    exact ⟨B1, r, S1, xc, P, g.step z1, q, hx.on z1, fun v x H2 B2 S2 z2 rv fr p => hq v x H2 B2 S2 (z1.trans z2) rv (fun z => z1.fr (fr z)) p⟩
/-! ### a new container is shared, or put into the store -/
theorem SM.shared {K : PySem.W.Frag} {B H B' H' : Hp} {S S' : Sto} {v : V} {x : Val} (z : SM K T B H S B' H' S') (rx : RepM K T B' H' S' v x) (f : Fr H v x) (sf : x.safe) : ∃ B'', SM K T B H S B'' H' S' ∧ Rep K B'' v x.d := by
  cases x with
  | dat d => exact ⟨B', z, rx.1⟩
  | tmp c =>
    obtain ⟨rv, m⟩ := rx
    have nd := safe_nd rv sf
    obtain ⟨p, rfl, n, w⟩ := rv
    have hp := f p c rfl rfl
    obtain ⟨o, ho, _⟩ := w.plain
    have kp : Kp B' (upd B' p o) := .new n
    have sub : Kp (upd B' p o) H' := fun a u e => by
      by_cases q : a = p
      · subst q
        rw [upd_same] at e
        cases e
        exact ⟨fun _ => ho, fun d => ⟨_, ho, .refl d⟩⟩
      · rw [upd_ne q] at e
        exact z.sub a u e
    refine ⟨upd B' p o, ⟨z.kp.trans kp, sub, fun a u e t nb ms => ?_, z.ext, z.tab, fun t n q hq => ?_, z.has, fun a c h => ?_⟩, ?_⟩
    · have ne : a ≠ p := fun q => by rw [q, hp] at e; cases e
      rw [upd_ne ne]
      exact z.out a u e t nb ms
    · have ne : q.1 ≠ p := fun e => (m p _ rfl rfl).2 ⟨q.2, by rw [← e]; exact hq⟩
      rw [upd_ne ne]
      exact z.tn t n q hq
    · obtain ⟨n1, q⟩ := z.st a c h
      have ne : a ≠ p := fun q => by rw [q, (m p _ rfl rfl).1] at h; cases h
      rw [upd_ne ne]
      exact ⟨n1, q.move kp fun _ e => e⟩
    · cases c with
      | lst ds =>
        obtain ⟨vs, h, r⟩ := w
        rw [ho] at h
        cases h
        exact .lst upd_same (r.mono kp)
      | dic ds =>
        obtain ⟨vs, h, r⟩ := w
        rw [ho] at h
        cases h
        exact .dic upd_same (nd ds rfl p vs rfl ho) (r.mono kp)
def mSh (de : ME) : ME := fun xc r S P => de xc r S fun x S1 => x.safe ∧ P (.dat x.d) S1
theorem mq_share {e : Expr} {de : ME} (h : PE X e (LM X.K T W true de)) : PE X e (LM X.K T W true (mSh de)) := by
  refine imE h fun s H Q ⟨B, r, S, xc, P, g, h, hx, hq⟩ => ⟨B, r, S, xc, _, g, h, hx, fun v x H1 B1 S1 z1 rx fr q => ?_⟩
  obtain ⟨B2, z2, rp⟩ := z1.shared rx (fr rfl) q.1
  exact hq v (.dat x.d) H1 B2 S1 z2 (.dat rp) (fun _ => Fr.dat) q.2
/-- a new container becomes a cell -/
def mPut (de : ME) : ME := fun xc r S P => de xc r S fun x S1 => match x with
  | .tmp c => ∀ p, S1 p = none → P (.dat (.obj p)) (up S1 p (.ct c))
  | .dat d => P (.dat d) S1
theorem mq_put {e : Expr} {de : ME} (h : PE X e (LM X.K T W true de)) : PE X e (LM X.K T W true (mPut de)) := by
  refine imE h fun s H Q ⟨B, r, S, xc, P, g, h, hx, hq⟩ => ⟨B, r, S, xc, _, g, h, hx, fun v x H1 B1 S1 z1 rx fr q => ?_⟩
  cases x with
  | dat d => exact hq v (.dat d) H1 B1 S1 z1 rx fr q
  | tmp c =>
    obtain ⟨⟨p, rfl, n, w⟩, m⟩ := rx
    have m1 := (m p c rfl rfl).1
    have hp := fr rfl p c rfl rfl
    refine hq (.ref p) (.dat (.obj p)) H1 B1 (up S1 p (.ct c)) ⟨z1.kp, z1.sub, fun a o h t nb ms => ?_, z1.ext, z1.tab, z1.tn, z1.has, fun a c2 h => ?_⟩ (.dat (.obj p)) (fun _ => Fr.dat) (q p m1)
    · have ne : a ≠ p := fun q => by rw [q, hp] at h; cases h
      rw [up_ne ne]
      exact z1.out a o h t nb ms
    · by_cases e : a = p
      · subst e
        rw [up_same] at h
        cases h
        exact ⟨n, w⟩
      · rw [up_ne e] at h
        exact z1.st a c2 h
/-! ### arguments, displays -/
def mNil : MA := fun _ _ S P => P [] S
def asDM (P : D → Sto → Prop) : Val → Sto → Prop
  | .dat d, S => P d S
  | .tmp _, _ => False
def mCons (de : ME) (da : MA) : MA := fun xc r S P => de xc r S fun x S1 => asD (fun d => da xc r S1 fun ds S2 => P (d :: ds) S2) x
theorem mqa_nil : PA X [] (LMA X.K T W mNil) := imA pa_nil fun s H Q ⟨B, r, S, xc, P, g, h, hx, hq⟩ => hq [] [] H B S (.refl g.kp g.st) .nil h
theorem mqa_cons {e : Expr} {es : List Expr} {de : ME} {da : MA} (h : PE X e (LM X.K T W true de)) (hr : PA X es (LMA X.K T W da)) (hs : starEach (e :: es) X.env = (false, eval e X.env) :: starEach es X.env := by rfl) : PA X (e :: es) (LMA X.K T W (mCons de da)) := by
  refine imA (pa_cons h hr hs) fun s H Q ⟨B, r, S, xc, P, g, h, hx, hq⟩ => ⟨B, r, S, xc, _, g, h, hx, fun v x H1 B1 S1 z1 rx fr q => ?_⟩
  cases x with
  | tmp c => exact q.elim
  | dat d => exact ⟨B1, r, S1, xc, _, g.step z1, q, hx.on z1, fun vs ds H2 B2 S2 z2 rl p => hq (v :: vs) (d :: ds) H2 B2 S2 (z1.trans z2) (.cons (Rep.mono z2.kp rx.1) rl) p⟩
def mTup (da : MA) : ME := fun xc r S P => da xc r S fun ds S1 => ds.length ≤ sizeLine ∧ P (.dat (.tup ds)) S1
def mLst (da : MA) : ME := fun xc r S P => da xc r S fun ds S1 => ds.length ≤ sizeLine ∧ P (.tmp (.lst ds)) S1
theorem mq_tup {es : List Expr} {x1 : Nat} {pos : Pos} {da : MA} (h : PA X es (LMA X.K T W da)) : PE X (.Tuple es x1 pos) (LM X.K T W true (mTup da)) := by
  refine imE (pe_tup h) fun s H Q ⟨B, r, S, xc, P, g, h, hx, hq⟩ => ⟨B, r, S, xc, _, g, h, hx, fun vs ds H1 B1 S1 z1 rl q => ⟨by rw [rl.length]; exact q.1, fun p n => ?_⟩⟩
  have z2 : SM X.K T B1 H1 S1 (upd B1 p (.tup vs)) (upd H1 p (.tup vs)) S1 := (Step.new z1.sub n).m z1.sub z1.st
  exact hq (.ref p) (.dat (.tup ds)) _ (upd B1 p (.tup vs)) S1 (z1.trans z2) (.dat (.tup (.inl (.inl upd_same)) (rl.mono (Kp.new (z1.sub.none n))))) (fun _ => Fr.dat) q.2
theorem mq_lst {es : List Expr} {pos : Pos} {da : MA} (h : PA X es (LMA X.K T W da)) : PE X (.List es pos) (LM X.K T W true (mLst da)) := by
  refine imE (pe_lst h) fun s H Q ⟨B, r, S, xc, P, g, h, hx, hq⟩ => ⟨B, r, S, xc, _, g, h, hx, fun vs ds H1 B1 S1 z1 rl q => ⟨by rw [rl.length]; exact q.1, fun p n => ?_⟩⟩
  have g1 := g.step z1
  have z2 : SM X.K T B1 H1 S1 B1 (upd H1 p (.lst vs)) S1 := (Step.tmp z1.sub n).m z1.sub z1.st
  refine hq (.ref p) (.tmp (.lst ds)) _ B1 S1 (z1.trans z2) (RepM.fresh (H := H1) g1.tb z1.st ⟨p, rfl, z1.sub.none n, vs, upd_same, rl⟩ (fun q c e _ => by cases e; exact n)) (fun _ q c e _ => by cases e; exact z1.free n) q.2
/-! ### slices -/
def mNo : MO := fun _ _ S P => P none S
def mPart (de : ME) : MO := fun xc r S P => de xc r S fun x S1 => asI (fun i => P (some i) S1) x.d
theorem mqo_none : PO X none (LMO X.K T W mNo) := imO po_none fun s H Q ⟨B, r, S, xc, P, g, h, hx, hq⟩ => hq none H B S (.refl g.kp g.st) h
theorem mqo_some {e : Expr} {de : ME} {f : Bool} (h : PE X e (LM X.K T W f de)) : PO X (some e) (LMO X.K T W (mPart de)) := by
  refine imO (po_some h) fun s H Q ⟨B, r, S, xc, P, g, h, hx, hq⟩ => ⟨B, r, S, xc, _, g, h, hx, fun v x H1 B1 S1 z1 rv _ q => ?_⟩
  obtain ⟨i, e, q⟩ := asI_elim q
  exact ⟨i, rv_int rv.1 e, hq _ H1 B1 S1 z1 q⟩
theorem rel_sl {K : PySem.W.Frag} {B H : Hp} {x : V} {vx : Val} {l u : Option Int} {P : Val → Prop} {Q : VK} (k : Kp B H) (rx : RepV K B H x vx) (q : fSl vx l u P) (a : Ans K B H P Q) : rSlU K x l u H Q := by
  unfold fSl fSlD at q
  split at q
  · rename_i es e1
    obtain ⟨p, vs, rfl, hp, rl⟩ := rv_lst k rx e1
    exact .inl ⟨p, vs, rfl, .inl (.inl hp), fun q2 n => a.newL k (cut_rep rl l u) q n⟩
  · rename_i es e1
    obtain ⟨p, vs, rfl, hb, hp, rl⟩ := rv_tup k rx e1
    have len := rl.length
    refine .inr (.inl ⟨p, vs, rfl, hp, fun w => ?_, fun w q2 n => a.newT k (cut_rep rl l u) q n⟩)
    have ec : Dl.cutD es l u = es := by
      unfold Dl.cutD
      rw [← len, w.1, w.2, List.drop_zero, Nat.sub_zero, len, List.take_length]
    rw [ec] at q
    exact a.dat k (.tup hb rl) q
  · rename_i y e1
    exact .inr (.inr ⟨y, rv_str rx e1, q.1, a.dat k (.str _) q.2⟩)
  · exact q.elim
def mSl (de : ME) (dl dh : MO) : ME := fun xc r S P => de xc r S fun x S1 => dl xc r S1 fun lo S2 => dh xc r S2 fun hi S3 => fSl (vw S3 x) lo hi fun z => P z S3
theorem mq_slice {e : Expr} {lo hi : Option Expr} {p2 pos : Pos} {de : ME} {dl dh : MO} {f : Bool} (he : PE X e (LM X.K T W f de)) (hl : PO X lo (LMO X.K T W dl)) (hh : PO X hi (LMO X.K T W dh)) : PE X (.Subscript e (.Slice lo hi none p2) pos) (LM X.K T W true (mSl de dl dh)) := by
  refine imE (pe_slice sl_u he hl hh) fun s H Q ⟨B, r, S, xc, P, g, h, hx, hq⟩ => ⟨B, r, S, xc, _, g, h, hx, fun x vx H1 B1 S1 z1 rx _ q1 => ?_⟩
  refine ⟨B1, r, S1, xc, _, g.step z1, q1, hx.on z1, fun l H2 B2 S2 z2 q2 => ?_⟩
  have z12 := z1.trans z2
  refine ⟨B2, r, S2, xc, _, g.step z12, q2, hx.on z12, fun u H3 B3 S3 z3 q3 => ?_⟩
  have z := z12.trans z3
  have g3 := g.step z
  exact rel_sl g3.kp (vw_rep g3.st ((rx.step z2).step z3).1) q3 fun v w H4 B4 z4 rv fr p => hq v w H4 B4 S3 (z.trans (z4.m g3.kp g3.st)) (RepM.fresh g3.tb g3.st rv fr) (fun _ => z.fr fr) p
/-! ### calls of built-ins -/
section
variable {x : Str} {p pos : Pos} {a b : Expr} {da db : ME} {fa fb : Bool} {id T0 : String} {r : List V → Hp → VK → Prop}
theorem mq_b1 {f : F1} (hr : RelC1 X.K r f) (hc : CallR X (.builtin id) r) (hg : Gl X x) (hm : X.mg x = none) (hv : bootBuiltins x = some (.builtin id)) (ha : PE X a (LM X.K T W fa da)) (hn : x ≠ "__name__" := by decide) (hdb : (x == ("__debug__" : Str)) = false := by decide)
    (he : starEach [a] X.env = (false, eval a X.env) :: starEach [] X.env := by rfl) (hpl : (backTo pos (starEach [] X.env)).any (·.1) = false := by rfl) : PE X (.Call (.Name x p) [a] [] pos) (LM X.K T W true (mUn f da)) :=
  imE (pe_callB hc hg hm hv (pa_cons ha pa_nil he) hn hdb he hpl) (lm_un hr)
theorem mq_t1 {f : F1} (hr : RelC1 X.K r f) (hc : CallR X (.type T0) r) (hg : Gl X x) (hm : X.mg x = none) (hv : bootBuiltins x = some (.type T0)) (ha : PE X a (LM X.K T W fa da)) (hn : x ≠ "__name__" := by decide) (hdb : (x == ("__debug__" : Str)) = false := by decide)
    (he : starEach [a] X.env = (false, eval a X.env) :: starEach [] X.env := by rfl) (hpl : (backTo pos (starEach [] X.env)).any (·.1) = false := by rfl) : PE X (.Call (.Name x p) [a] [] pos) (LM X.K T W true (mUn f da)) :=
  imE (pe_callTy hc hg hm hv (pa_cons ha pa_nil he) hn hdb he hpl) (lm_un hr)
theorem mq_b2 {f : F2} (hr : RelC2 X.K r f) (hc : CallR X (.builtin id) r) (hg : Gl X x) (hm : X.mg x = none) (hv : bootBuiltins x = some (.builtin id)) (ha : PE X a (LM X.K T W fa da)) (hb : PE X b (LM X.K T W fb db)) (hn : x ≠ "__name__" := by decide) (hdb : (x == ("__debug__" : Str)) = false := by decide)
    (he : starEach [a, b] X.env = (false, eval a X.env) :: starEach [b] X.env := by rfl) (he2 : starEach [b] X.env = (false, eval b X.env) :: starEach [] X.env := by rfl) (hpl : (backTo pos (starEach [b] X.env)).any (·.1) = false := by rfl) : PE X (.Call (.Name x p) [a, b] [] pos) (LM X.K T W true (mOp f da db)) :=
  imE (pe_callB hc hg hm hv (pa_cons ha (pa_cons hb pa_nil he2) he) hn hdb he hpl) (lm_op hr)
end
theorem mq_isi (t : Ty6) {p p2 pos : Pos} {a : Expr} {y : Str} {da : ME} {fa : Bool} (hg : Gl X "isinstance") (hm : X.mg "isinstance" = none) (hg2 : Gl X y) (hm2 : X.mg y = none) (hv2 : bootBuiltins y = some (.type t.name)) (ha : PE X a (LM X.K T W fa da)) (hn : y ≠ "__name__" := by decide) (hd : (y == ("__debug__" : Str)) = false := by decide)
    (he : starEach [a, .Name y p2] X.env = (false, eval a X.env) :: starEach [.Name y p2] X.env := by rfl) (he2 : starEach [.Name y p2] X.env = (false, eval (.Name y p2) X.env) :: starEach [] X.env := by rfl) (hpl : (backTo pos (starEach [.Name y p2] X.env)).any (·.1) = false := by rfl) :
    PE X (.Call (.Name "isinstance" p) [a, .Name y p2] [] pos) (LM X.K T W true (mUn (fIsi t) da)) := by
  refine imE (pe_callB call_isi hg hm (by decide +kernel) (pa_cons ha (pa_cons (pe_bltn (v := .ty t.name) hg2 hm2 hv2 rfl hn hd) pa_nil he2) he) (by decide) (by decide) he hpl) fun s H Q ⟨B, r, S, xc, P, g, h, hx, hq⟩ => ⟨B, r, S, xc, _, g, h, hx, fun x vx H1 B1 S1 z1 rx _ q => ?_⟩
  obtain ⟨o, q⟩ := q
  obtain ⟨n, ty, e⟩ := kit_rep z1.sub (vw_rep z1.st rx.1) o (fun a vs e h => by subst e; exact tup_ty a vs h) t
  exact ⟨x, .ty t.name, .type n, .type t.name, _, rfl, .ty _, ty, kit_ty e, hq _ (.dat (.bl _)) H1 B1 S1 z1 (.dat (.bl _)) (fun _ => Fr.dat) q⟩
/-! ### d.get -/
def mGet2 (dd dk de : ME) : ME := fun xc r S P => dd xc r S fun x S1 => asDic (fun _ => dk xc r S1 fun k S2 => de xc r S2 fun y S3 => asDic (fun kds => onO (keyD k.d) fun q => getP (valD kds q) y fun z => P z S3) (vw S3 x).d) (vw S1 x).d
def mGet1 (dd dk : ME) : ME := fun xc r S P => dd xc r S fun x S1 => asDic (fun _ => dk xc r S1 fun k S2 => asDic (fun kds => onO (keyD k.d) fun q => getP (valD kds q) (.dat .non) fun z => P z S2) (vw S2 x).d) (vw S1 x).d
theorem mq_dget2 {o e f : Expr} {apos cpos : Pos} {dd dk de : ME} {f1 f2 : Bool} (hu : X.A.units + 1 < cLine) (ho : PE X o (LM X.K T W f1 dd)) (he : PE X e (LM X.K T W f2 dk)) (hf : PE X f (LM X.K T W true de)) (m : M2 X o "get" apos e f cpos) :
    PE X (.Call (.Attribute o "get" apos) [e, f] [] cpos) (LM X.K T W true (mGet2 dd dk de)) := by
  refine imE (pe_dget2 hu ho he hf m) fun s H Q ⟨B, r, S, xc, P, g, h, hx, hq⟩ => ⟨B, r, S, xc, _, g, h, hx, fun x vx H1 B1 S1 z1 rx _ q1 => ?_⟩
  obtain ⟨kds, ed, q1⟩ := asDic_elim q1
  obtain ⟨a, kvs, rfl, hv, rk⟩ := rv_dic z1.sub (vw_rep z1.st rx.1) ed
  refine ⟨a, rfl, .inl ⟨kvs, .inl hv⟩, B1, r, S1, xc, _, g.step z1, q1, hx.on z1, fun y vy H2 B2 S2 z2 ry _ q2 => ?_⟩
  have z12 := z1.trans z2
  refine ⟨B2, r, S2, xc, _, g.step z12, q2, hx.on z12, fun w vw' H3 B3 S3 z3 rw_ fw q3 => ?_⟩
  have z := z12.trans z3
  obtain ⟨kds3, ed3, q3⟩ := asDic_elim q3
  obtain ⟨q, ek, q3⟩ := onO_elim q3
  have ey := key_v (ry.step z3).1 ek
  subst ey
  obtain ⟨kvs3, hv3, rk3⟩ := rv_dic_same z3.sub (vw_rep z3.st ((rx.step z2).step z3).1) ed3
  unfold getP at q3
  cases ev : valD kds3 q with
  | some d =>
    rw [ev] at q3
    obtain ⟨v, e1, r1⟩ := rk3.val ev
    exact ⟨some v, by rw [← e1]; exact DGet.k hv3, hq v (.dat d) H3 B3 S3 z (.dat r1) (fun _ => Fr.dat) q3⟩
  | none =>
    rw [ev] at q3
    exact ⟨none, by rw [← rk3.val_none ev]; exact DGet.k hv3, hq w vw' H3 B3 S3 z rw_ (fun _ => z12.fr (fw rfl)) q3⟩
theorem mq_dget1 {o e : Expr} {apos cpos : Pos} {dd dk : ME} {f1 f2 : Bool} (hu : X.A.units + 1 < cLine) (ho : PE X o (LM X.K T W f1 dd)) (he : PE X e (LM X.K T W f2 dk)) (m : M1 X o "get" apos e cpos) :
    PE X (.Call (.Attribute o "get" apos) [e] [] cpos) (LM X.K T W true (mGet1 dd dk)) := by
  refine imE (pe_dget1 hu ho he m) fun s H Q ⟨B, r, S, xc, P, g, h, hx, hq⟩ => ⟨B, r, S, xc, _, g, h, hx, fun x vx H1 B1 S1 z1 rx _ q1 => ?_⟩
  obtain ⟨kds, ed, q1⟩ := asDic_elim q1
  obtain ⟨a, kvs, rfl, hv, rk⟩ := rv_dic z1.sub (vw_rep z1.st rx.1) ed
  refine ⟨a, rfl, .inl ⟨kvs, .inl hv⟩, B1, r, S1, xc, _, g.step z1, q1, hx.on z1, fun y vy H2 B2 S2 z2 ry _ q2 => ?_⟩
  have z := z1.trans z2
  obtain ⟨kds3, ed3, q3⟩ := asDic_elim q2
  obtain ⟨q, ek, q3⟩ := onO_elim q3
  have ey := key_v ry.1 ek
  subst ey
  obtain ⟨kvs3, hv3, rk3⟩ := rv_dic_same z2.sub (vw_rep z2.st (rx.step z2).1) ed3
  unfold getP at q3
  cases ev : valD kds3 q with
  | some d =>
    rw [ev] at q3
    obtain ⟨v, e1, r1⟩ := rk3.val ev
    exact ⟨some v, by rw [← e1]; exact DGet.k hv3, hq v (.dat d) H2 B2 S2 z (.dat r1) (fun _ => Fr.dat) q3⟩
  | none =>
    rw [ev] at q3
    exact ⟨none, by rw [← rk3.val_none ev]; exact DGet.k hv3, hq _ (.dat .non) H2 B2 S2 z (.dat .non) (fun _ => Fr.dat) q3⟩
/-- k in d, k not in d, d[k], of dicts -/
def rInD (neg : Bool) : R2 := fun x y H Q => ∃ a o, y = .ref a ∧ DGet H a x o ∧ Q (.bl (if neg then !o.isSome else o.isSome)) H
end
end Ml
/-! Ml3: calls, loops, comprehensions, statements with a store; a def's promise. -/
namespace Ml
open PySem PySem.Spec PyProof.Rows L2 Dl LamX
abbrev MI := MX → DEnv → Sto → (List D → Option Addr → Sto → Prop) → Prop
structure MEnds where
  nx : DEnv → Sto → Prop
  rt : Val → Sto → Prop
  bk : DEnv → Sto → Prop := fun _ _ => False
  ct : DEnv → Sto → Prop := fun _ _ => False
abbrev MS := MX → MEnds → DEnv → Sto → Prop
/-- the cell that is walked stays as it is -/
def Keep (cs : Option Addr) (S S' : Sto) : Prop := match cs with
  | none => True
  | some a => S' a = S a
def ItM (K : PySem.W.Frag) (J : It) (ds : List D) (B H : Hp) (S : Sto) (src : Addr → Prop) (cs : Option Addr) : Prop := ∀ B2 H2 S2 (i : Nat), Kp B B2 → Kp B2 H2 → StRep K B2 H2 S2 → (∀ p o, src p → H p = some o → H2 p = some o ∧ B2 p = none) → Keep cs S S2 →
  (∀ d, ds[i]? = some d → J.go i H2 ∧ ∀ x H3, J.yld i H2 x H3 → ∃ B3, Step B2 H2 B3 H3 ∧ Rep K B3 x d) ∧ (ds.length = i → J.stop i H2)
def LMI (K : PySem.W.Frag) (T : Tbs) (W : WX) (mi : MI) : TI := fun s H R => ∃ B r S xc P, Good K T B H s r S ∧ mi xc r S P ∧ Hx K T W xc B H S s r ∧
  ∀ J ds cs H' B' S' src, SM K T B H S B' H' S' → (∀ p, src p → H p = none ∧ B' p = none ∧ S' p = none ∧ ∃ o, H' p = some o ∧ Pl T p o) → ItM K J ds B' H' S' src cs → P ds cs S' → R J H'
def LMS (K : PySem.W.Frag) (T : Tbs) (W : WX) (ms : MS) : TS := fun E s H => ∃ B r S xc De, Good K T B H s r S ∧ ms xc De r S ∧
  (∀ cls d e s' r' H' B' S', SMS K T B H S s r B' H' S' s' r' → ExcRep K B' cls d e → xc e r' S' → W cls d s' H') ∧
  (∀ s' r' H' B' S', SMS K T B H S s r B' H' S' s' r' → De.nx r' S' → E.nx s' H') ∧
  (∀ s' r' H' B' S', SMS K T B H S s r B' H' S' s' r' → De.bk r' S' → E.bk s' H') ∧
  (∀ s' r' H' B' S', SMS K T B H S s r B' H' S' s' r' → De.ct r' S' → E.ct s' H') ∧
  ∀ v x H' B' S', SMS K T B H S s r B' H' S' [some v] [some x] → De.rt x S' → E.rt v H'
/-- a def's promise -/
abbrev MSp := List D → Sto → (Exc → Sto → Prop) → (Val → Sto → Prop) → Prop
def spM (K : PySem.W.Frag) (T : Tbs) (sp : MSp) : Sp := fun vs H Q E => ∃ B ds S xc P, Kp B H ∧ RepL K B vs ds ∧ StRep K B H S ∧ (Tabs T H ∧ ∀ p ∈ T, B p.1 = none) ∧ sp ds S xc P ∧
  (∀ cls d e H' B' S', SM K T B H S B' H' S' → ExcRep K B' cls d e → xc e S' → E cls d H') ∧
  ∀ v x H' B' S', SM K T B H S B' H' S' → RepM K T B' H' S' v x → Fr H v x → P x S' → Q v H'
/-- a promise that leaves the store alone -/
def upS (sp : DSp) : MSp := fun ds S xc P => sp ds (fun e => xc e S) fun v => P v S
theorem fn_up {P : Program} {w : World} {K : PySem.W.Frag} {T : Tbs} {mg : Str → Option Value} {base : Heap} {CX : CXT} {k : Nat} {f : Addr} {fd : FuncData} {ps : List Str} {sp : DSp} (F : FnOk P w K mg base CX k f fd ps (spD K sp)) : FnOk P w K mg base CX k f fd ps (spM K T (upS sp)) :=
  F.imp fun vs H Q E ⟨B, ds, S, xc, P, k, rl, ss, tb, h, hx, hq⟩ => ⟨B, ds, _, _, k, rl, h, fun cls d e H' B' z => hx cls d e H' B' S (z.m k ss), fun v x H' B' z rv fr p => hq v x H' B' S (z.m k ss) (RepM.fresh tb.1 ss rv fr) fr p⟩
section
variable {X : Cx} {T : Tbs} {W : WX}
/-! ### calls of the text's own defs -/
def mCall (sp : MSp) (da : MA) : ME := fun xc r S P => da xc r S fun ds S1 => sp ds S1 (fun _ _ => False) P
def mCallX (sp : MSp) (da : MA) : ME := fun xc r S P => da xc r S fun ds S1 => sp ds S1 (fun e S2 => xc e r S2) P
theorem mq_call {x : Str} {p pos : Pos} {e : Expr} {es : List Expr} {k : Nat} {f : Addr} {fd : FuncData} {ps : List Str} {sp : MSp} {da : MA} (F : FnOk X.prog X.w X.K X.mg X.base CX0 k f fd ps (spM X.K T sp)) (hr : Room k X.A) (hg : Gl X x) (hm : X.mg x = some (.ref f)) (hk : PySem.W.keepIn X.K (.ref f) = true) (hb : Binds X.K fd ps [])
    (ha : PA X (e :: es) (LMA X.K T W da)) (hdb : (x == ("__debug__" : Str)) = false := by decide) (he : starEach (e :: es) X.env = (false, eval e X.env) :: starEach es X.env := by rfl) (hpl : (backTo pos (starEach es X.env)).any (·.1) = false := by rfl) :
    PE X (.Call (.Name x p) (e :: es) [] pos) (LM X.K T W true (mCall sp da)) := by
  refine imE (pe_call F hr hg hm hk hb .nil pass0 ha hdb he hpl) fun s H Q ⟨B, r, S, xc, P, g, h, hx, hq⟩ => ⟨B, r, S, xc, _, g, h, hx, fun vs ds H1 B1 S1 z1 rl q => ?_⟩
  show spM X.K T sp (vs ++ []) H1 Q E0
  rw [List.append_nil]
  have g1 := g.step z1
  exact ⟨B1, ds, S1, _, P, g1.kp, rl, g1.st, ⟨g1.tb, g1.tn⟩, q, fun _ _ _ _ _ _ _ _ z => z.elim, fun v x H' B' S' z2 rv fr p => hq v x H' B' S' (z1.trans z2) rv (fun _ => z1.fr fr) p⟩
theorem mq_call0 {x : Str} {p pos : Pos} {k : Nat} {f : Addr} {fd : FuncData} {ps : List Str} {sp : MSp} (F : FnOk X.prog X.w X.K X.mg X.base CX0 k f fd ps (spM X.K T sp)) (hr : Room k X.A) (hg : Gl X x) (hm : X.mg x = some (.ref f)) (hk : PySem.W.keepIn X.K (.ref f) = true) (hb : Binds X.K fd ps [])
    (hdb : (x == ("__debug__" : Str)) = false := by decide) : PE X (.Call (.Name x p) [] [] pos) (LM X.K T W true (mCall sp mNil)) := by
  refine imE (pe_call0 F hr hg hm hk hb .nil pass0 hdb) fun s H Q ⟨B, r, S, xc, P, g, h, hx, hq⟩ => ?_
  exact ⟨B, [], S, _, P, g.kp, .nil, g.st, ⟨g.tb, g.tn⟩, h, fun _ _ _ _ _ _ _ _ z => z.elim, fun v x H' B' S' z2 rv fr p => hq v x H' B' S' z2 rv (fun _ => fr) p⟩
theorem mq_callX {x : Str} {p pos : Pos} {e : Expr} {es : List Expr} {k : Nat} {f : Addr} {fd : FuncData} {ps : List Str} {sp : MSp} {da : MA} (F : FnOk X.prog X.w X.K X.mg X.base (L2.CX X.prog X.w) k f fd ps (spM X.K T sp)) (hr : Room k X.A) (hg : Gl X x) (hm : X.mg x = some (.ref f)) (hk : PySem.W.keepIn X.K (.ref f) = true) (hb : Binds X.K fd ps [])
    (tk : Takes X W) (ha : PA X (e :: es) (LMA X.K T W da)) (hdb : (x == ("__debug__" : Str)) = false := by decide) (he : starEach (e :: es) X.env = (false, eval e X.env) :: starEach es X.env := by rfl) (hpl : (backTo pos (starEach es X.env)).any (·.1) = false := by rfl) :
    PE X (.Call (.Name x p) (e :: es) [] pos) (LM X.K T W true (mCallX sp da)) := by
  refine imE (pe_callS F hr hg hm hk hb (fun s => passAt tk s) ha hdb he hpl) fun s H Q ⟨B, r, S, xc, P, g, h, hx, hq⟩ => ⟨B, r, S, xc, _, g, h, hx, fun vs ds H1 B1 S1 z1 rl q => ?_⟩
  have g1 := g.step z1
  exact ⟨B1, ds, S1, _, P, g1.kp, rl, g1.st, ⟨g1.tb, g1.tn⟩, q, fun cls d e H' B' S' z2 => hx cls d e H' B' S' (z1.trans z2), fun v x H' B' S' z2 rv fr p => hq v x H' B' S' (z1.trans z2) rv (fun _ => z1.fr fr) p⟩
/-! ### what is walked -/
def mUI (di : DI) : MI := fun xc r S P => di (fun e r => xc e r S) r fun ds => P ds none S
theorem mi_up {tg e : Expr} {di : DI} (h : PI X tg e (LI X.K W di)) : PI X tg e (LMI X.K T W (mUI di)) := by
  refine imI h fun s H R ⟨B, r, S, xc, P, g, h, hx, hq⟩ => ⟨B, r, _, _, g.kp, g.en, h, fun cls d e H' B' z => hx cls d e H' B' S (z.m g.kp g.st), fun J ds H' B' src z hs it p => ?_⟩
  refine hq J ds none H' B' S src (z.m g.kp g.st) (fun p hp => ?_) (fun B2 H2 S2 i k1 k2 _ hs2 _ => it B2 H2 i k1 k2 hs2) p
  obtain ⟨h1, h2, o, h3, h4⟩ := hs p hp
  refine ⟨h1, h2, g.st.fresh h1, o, h3, fun ⟨q, m⟩ => ?_, h4⟩
  obtain ⟨ps, e, _⟩ := g.tb _ m
  have e : H p = some (.tbl ps) := e
  rw [h1] at e
  cases e
/-- a walk over a value, not a cell's -/
def mIt (de : ME) : MI := fun xc r S P => de xc r S fun x S1 => fIt x fun l => P l none S1
/-- a walk over a cell's list -/
def mItC (de : ME) : MI := fun xc r S P => de xc r S fun x S1 => match x with
  | .dat (.obj a) => match S1 a with
    | some (.ct (.lst l)) => P l (some a) S1
    | _ => False
  | _ => False
theorem mqi_any {tg e : Expr} {de : ME} (h : PE X e (LM X.K T W true de)) : PI X tg e (LMI X.K T W (mIt de)) := by
  refine imI (pi_any h) fun s H R ⟨B, r, S, xc, P, g, h, hx, hq⟩ => ⟨B, r, S, xc, _, g, h, hx, fun x vx H1 B1 S1 z1 rx fr q => ?_⟩
  have up : ∀ {J : It} {ds : List D} {src : Addr → Prop}, ItOk X.K J ds B1 H1 src → ItM X.K J ds B1 H1 S1 src none := fun it B2 H2 S2 i k1 k2 _ hs2 _ => it B2 H2 i k1 k2 hs2
  unfold fIt fItD at q
  split at q
  · rename_i l e
    cases vx with
    | dat d =>
      cases (show d = .lst l from e)
      cases rx.1 with
      | lst hb rl =>
        exact .inl ⟨_, rfl, ⟨_, .inl (.inl ((z1.sub _ _ hb).1 DrawO.lst))⟩, hq _ l none H1 B1 S1 (fun _ => False) z1 (fun _ z => z.elim)
          (up (itok_list (fun B2 H2 k1 k2 _ => kp_l k2 (kp_l k1 (.inl (.inl hb)))) rl)) q⟩
    | tmp c =>
      cases c with
      | dic _ => cases e
      | lst es =>
        cases (show D.lst es = D.lst l from e)
        obtain ⟨⟨p, rfl, n, vs, hp, rl⟩, m⟩ := rx
        exact .inl ⟨_, rfl, ⟨_, .inl (.inl hp)⟩, hq _ l none H1 B1 S1 (fun a => a = p) z1 (fun a z => by subst z; exact ⟨fr rfl _ _ rfl rfl, n, (m _ _ rfl rfl).1, _, hp, (m _ _ rfl rfl).2, fun _ z => nomatch z⟩)
          (up (itok_list (fun B2 H2 k1 k2 st => .inl (.inl (st p _ rfl hp).1)) rl)) q⟩
  · rename_i l e
    obtain ⟨p, vs, rfl, hb, hp, rl⟩ := rv_tup z1.sub rx.1 e
    exact .inr (.inl ⟨_, rfl, ⟨_, hp⟩, hq _ l none H1 B1 S1 (fun _ => False) z1 (fun _ z => z.elim) (up (itok_tup hb rl)) q⟩)
  · rename_i l e
    cases vx with
    | tmp c => cases c <;> cases e
    | dat d =>
      cases (show d = .scr l from e)
      cases rx.1 with
      | scr hb => exact .inl ⟨_, rfl, ⟨_, kp_l z1.sub hb⟩, hq _ _ none H1 B1 S1 (fun _ => False) z1 (fun _ z => z.elim) (up (itok_list (fun B2 H2 k1 k2 _ => kp_l k2 (kp_l k1 hb)) (RepL.ints l))) q⟩
  · rename_i y e
    have ex := rv_str rx.1 e
    exact .inr (.inr ⟨y, ex, hq _ _ none H1 B1 S1 (fun _ => False) z1 (fun _ z => z.elim) (up itok_str) q⟩)
  · exact q.elim
theorem mqi_cell {tg e : Expr} {de : ME} {f : Bool} (h : PE X e (LM X.K T W f de)) : PI X tg e (LMI X.K T W (mItC de)) := by
  refine imI (pi_any h) fun s H R ⟨B, r, S, xc, P, g, h, hx, hq⟩ => ⟨B, r, S, xc, _, g, h, hx, fun x vx H1 B1 S1 z1 rx fr q => ?_⟩
  split at q
  · rename_i a
    split at q
    · rename_i l e
      obtain ⟨n, vs, hv, rl⟩ := z1.st a _ e
      cases rx.1
      refine .inl ⟨_, rfl, ⟨_, .inl (.inl hv)⟩, hq _ l (some a) H1 B1 S1 (fun _ => False) z1 (fun _ z => z.elim) (fun B2 H2 S2 i k1 k2 st2 _ ks => ?_) q⟩
      have ks : S2 a = S1 a := ks
      rw [e] at ks
      obtain ⟨n2, vs2, hv2, rl2⟩ := st2 a _ ks
      refine ⟨fun d hd => ?_, fun hn => ⟨vs2, .inl (.inl hv2), by rw [rl2.length]; exact Nat.le_of_eq hn⟩⟩
      obtain ⟨v, hv, rv⟩ := rl2.get hd
      refine ⟨⟨vs2, v, .inl (.inl hv2), hv⟩, fun x H3 y => ?_⟩
      obtain ⟨e, y⟩ := y
      subst e
      have z := y vs2 (.inl (.inl hv2))
      rw [hv] at z
      cases z
      exact ⟨B2, .refl k2, rv⟩
    · exact q.elim
  · exact q.elim
/-! ### comprehensions -/
def XM0 : MX := fun _ _ _ => False
def mYes : MT := fun _ _ S P => P true S
def LcM (tg : DG) (cond : MT) (elt : ME) (own : List Nat) (r : DEnv) (P : Val → Sto → Prop) (items : List D) (cs : Option Addr) (S : Sto) : Prop := ∃ I : Nat → List D → Sto → Prop, I 0 [] S ∧ (∀ i acc S', I i acc S' → Keep cs S S') ∧
  (∀ i x acc S', items[i]? = some x → I i acc S' → tg x (wp r own) fun r2 => cond XM0 r2 S' fun b S2 => ifB b (elt XM0 r2 S2 fun y S3 => asD (fun d => acc.length < sizeLine ∧ I (i + 1) (acc ++ [d]) S3) y) (I (i + 1) acc S2)) ∧ ∀ acc S', I items.length acc S' → P (.tmp (.lst acc)) S'
def mLc (di : MI) (tg : DG) (cond : MT) (elt : ME) (own : List Nat) : ME := fun xc r S P => di xc r S (LcM tg cond elt own r P)
theorem wipe_idem : ∀ (l : List Nat) (s : L2.St), wipe (wipe s l) l = wipe s l := by
  have comm : ∀ (l : List Nat) (v : Nat) (s : L2.St), wipe (s.set v none) l = (wipe s l).set v none := by
    intro l
    induction l with
    | nil => intro v s; rfl
    | cons a l ih =>
      intro v s
      show (wipe (s.set v none) l).set a none = ((wipe s l).set a none).set v none
      rw [ih]
      by_cases z : v = a
      · subst z; rfl
      · exact List.set_comm _ _ z
  intro l
  induction l with
  | nil => intro s; rfl
  | cons a l ih =>
    intro s
    show (wipe ((wipe s l).set a none) l).set a none = (wipe s l).set a none
    rw [comm, ih, List.set_set]
theorem lk_wp {i : Nat} {x : Val} : ∀ {own : List Nat} {r : DEnv}, lk (wp r own) i = some x → lk r i = some x ∧ i ∉ own
  | [], _, h => ⟨h, fun z => nomatch z⟩
  | v :: vs, r, h => by
    obtain ⟨h1, h2⟩ := lk_st_none h
    obtain ⟨h3, h4⟩ := lk_wp h1
    exact ⟨h3, fun z => (List.mem_cons.mp z).elim (fun e => h2 e.symm) h4⟩
theorem wipe_get {i : Nat} : ∀ {own : List Nat} {s : L2.St}, i ∉ own → (wipe s own)[i]? = s[i]?
  | [], _, _ => rfl
  | v :: vs, s, h => by
    show ((wipe s vs).set v none)[i]? = _
    rw [List.getElem?_set_ne (fun e => h (by rw [e]; exact List.mem_cons_self ..))]
    exact wipe_get fun z => h (List.mem_cons_of_mem _ z)
theorem owns_wipe {own : List Nat} {s : L2.St} {r : DEnv} {a : Addr} (h : Owns (wipe s own) (wp r own) a) : Owns s r a := by
  obtain ⟨i, c, h1, h2⟩ := h
  obtain ⟨h3, h4⟩ := lk_wp h1
  rw [wipe_get h4] at h2
  exact ⟨i, c, h3, h2⟩
theorem Good.wipe {K : PySem.W.Frag} {B H : Hp} {s : L2.St} {r : DEnv} {S : Sto} (g : Good K T B H s r S) (own : List Nat) : Good K T B H (wipe s own) (wp r own) S :=
  ⟨g.kp, g.en.wipe own, g.st, fun a c h ow => g.dj a c h (owns_wipe ow), g.tb, g.tn⟩
theorem Good.env {K : PySem.W.Frag} {B H : Hp} {s s' : L2.St} {r r' : DEnv} {S : Sto} (g : Good K T B H s r S) (en : EnvRep K B H s' r') (ow : ∀ a, Owns s' r' a → Owns s r a) : Good K T B H s' r' S :=
  ⟨g.kp, en, g.st, fun a c h o => g.dj a c h (ow a o), g.tb, g.tn⟩
theorem lm_lc {di : MI} {tg : DG} {cond : MT} {elt : ME} {own : List Nat} (s : L2.St) (H : Hp) (Q : VK) (h : LM X.K T W true (mLc di tg cond elt own) s H Q) :
    tLc (LMI X.K T W di) (LG X.K own tg) (LMT X.K T W0 cond) (LM X.K T W0 true elt) own s H Q := by
  obtain ⟨B, r, S, xc, P, g, h, hx, hq⟩ := h
  refine ⟨B, r, S, xc, _, g, h, hx, fun J items cs H1 B1 S1 src z1 hsrc it q => fun Da nD => ?_⟩
  obtain ⟨I, i0, keep, turn, fin⟩ := q
  have g1 := g.step z1
  have sD : S1 Da = none := g1.st.fresh nD
  have tD : ¬ Tat T Da := fun ⟨q, m⟩ => by
    obtain ⟨ps, e, _⟩ := g1.tb _ m
    have e : H1 Da = some (.tbl ps) := e
    rw [nD] at e
    cases e
  refine ⟨fun i m H => ∃ B2 S2 vs acc, m = items.length - i ∧ i ≤ items.length ∧ SM X.K T B1 H1 S1 B2 H S2 ∧ H Da = some (.lst vs) ∧ B2 Da = none ∧ S2 Da = none ∧ RepL X.K B2 vs acc ∧ I i acc S2,
    ⟨items.length, B1, S1, [], [], by omega, Nat.zero_le _, (Step.tmp g1.kp nD).m g1.kp g1.st, upd_same, g1.kp.none nD, sD, .nil, i0⟩, ?_⟩
  rintro i m H2 ⟨B2, S2, vs, acc, rfl, hi, z2, hD, bD, sD2, rl, inv⟩
  have zz := it B2 H2 S2 i z2.kp z2.sub z2.st (fun p o hp ho => by
    obtain ⟨_, a, b, o2, e2, c⟩ := hsrc p hp
    rw [ho] at e2; cases e2
    exact ⟨(z2.out p o ho c a b).1, (z2.out p o ho c a b).2.1⟩) (keep i acc S2 inv)
  by_cases hlt : i < items.length
  · obtain ⟨d, hd⟩ : ∃ d, items[i]? = some d := ⟨items[i], by simp [hlt]⟩
    obtain ⟨go, yl⟩ := zz.1 d hd
    refine .inr ⟨go, fun H' => ∃ B2 S2 vs acc, SM X.K T B1 H1 S1 B2 H' S2 ∧ H' Da = some (.lst vs) ∧ B2 Da = none ∧ S2 Da = none ∧ RepL X.K B2 vs acc ∧ I (i + 1) acc S2, fun H' ⟨B3, S3, vs3, acc3, z3, hD3, bD3, sD3, rl3, inv3⟩ => ⟨items.length - (i + 1), by omega, B3, S3, vs3, acc3, rfl, hlt, z3, hD3, bD3, sD3, rl3, inv3⟩, fun x H3 y => ?_⟩
    obtain ⟨B3, s3, rx⟩ := yl x H3 y
    have g2 := g1.step z2
    have z3 := s3.m (T := T) g2.kp g2.st
    have hD3 := z3.out Da _ hD ⟨tD, fun _ z => nomatch z⟩ bD sD2
    have g3 := g2.step z3
    have g3w := g3.wipe own
    refine ⟨B3, wp r own, d, _, g3w.kp, g3w.en, rx, turn i d acc S2 hd inv, fun s' r' en' hw ow' q => ?_⟩
    rw [wipe_idem] at hw
    have g3' := g3w.env en' ow'
    refine ⟨hw, B3, r', S2, XM0, _, g3', q, fun _ _ _ _ _ _ _ _ z => z.elim, fun b H4 B4 S4 z4 q => ?_⟩
    have hD4 := z4.out Da _ hD3.1 ⟨tD, fun _ z => nomatch z⟩ hD3.2.1 hD3.2.2
    have g4 := g3'.step z4
    cases b with
    | false =>
      unfold ifB at q; rw [if_neg Bool.false_ne_true] at q
      refine iteF ?_
      exact ⟨B4, S4, vs, acc, z2.trans (z3.trans z4), hD4.1, hD4.2.1, hD4.2.2, rl.mono (s3.kp.trans z4.kp), q⟩
    | true =>
      unfold ifB at q; rw [if_pos rfl] at q
      refine iteT ?_
      refine ⟨B4, r', S4, XM0, _, g4, q, fun _ _ _ _ _ _ _ _ z => z.elim, fun v vx H5 B5 S5 z5 rv fr q => ?_⟩
      have hD5 := z5.out Da _ hD4.1 ⟨tD, fun _ z => nomatch z⟩ hD4.2.1 hD4.2.2
      cases vx with
      | tmp c => exact q.elim
      | dat e =>
        obtain ⟨hl, q⟩ := q
        have rl5 : RepL X.K B5 vs acc := rl.mono (s3.kp.trans (z4.kp.trans z5.kp))
        have z25 := z2.trans (z3.trans (z4.trans z5))
        refine ⟨vs, hD5.1, by rw [rl5.length]; exact hl, B5, S5, vs ++ [v], acc ++ [e], ⟨z25.kp, z25.sub.upd hD5.2.1, fun a o h t n m => ?_, fun a φ h => ?_, fun n t => ?_, z25.tn, fun a o h => ?_, fun a c h => ?_⟩, upd_same, hD5.2.1, hD5.2.2, rl5.append (.cons rv.1 .nil), q⟩
        · have ne : a ≠ Da := fun z => by rw [z, nD] at h; cases h
          rw [upd_ne ne]
          exact z25.out a o h t n m
        · have ne : a ≠ Da := fun z => by rw [z, nD] at h; cases h
          rw [upd_ne ne]
          exact z25.ext a φ h
        · have t5 := z25.tab n t
          intro p hp
          obtain ⟨ps, h1, h2, h3⟩ := t5 p hp
          have ne : p.1 ≠ Da := fun z => tD ⟨p.2, by rw [← z]; exact hp⟩
          refine ⟨ps, by rw [upd_ne ne]; exact h1, h2, fun pos cv hc => ?_⟩
          obtain ⟨c, e1, e2⟩ := h3 pos cv hc
          have ne2 : c ≠ Da := fun z => by
            rw [z, hD5.1] at e2
            cases e2
          exact ⟨c, e1, by rw [upd_ne ne2]; exact e2⟩
        · by_cases e : a = Da
          · subst e; exact ⟨_, upd_same⟩
          · rw [upd_ne e]; exact z25.has a o h
        · have ne : a ≠ Da := fun z => by rw [z, hD5.2.2] at h; cases h
          obtain ⟨n1, q1⟩ := z25.st a c h
          exact ⟨n1, q1.move (.refl _) fun o ho => by rw [upd_ne ne]; exact ho⟩
  · have e : i = items.length := by omega
    subst e
    refine .inl ⟨zz.2 rfl, hq _ (.tmp (.lst acc)) H2 B2 S2 (z1.trans z2) ⟨⟨Da, rfl, bD, vs, hD, rl⟩, fun p c e _ => by cases e; exact ⟨sD2, tD⟩⟩ (fun _ p c e _ => by cases e; exact z1.free nD) (fin acc S2 inv)⟩
theorem mq_lc {elt tg iter : Expr} {ifs : List Expr} {scope : Scope} {own : List (Str × Nat)} {pos : Pos} {di : MI} {dg : DG} {cond : MT} {de : ME} (hc : X.calm = true) (hN : X.N.Nodup) (hi : PI X tg iter (LMI X.K T W di)) (ok : BlkOk X.N X.env.scope scope own)
    (hg : ∀ (s : Shared) (H : Hp) (C : Addr) (cl : List (Str × Addr)) (fp : List Addr), PG (X.blk s H scope (compEnvC scope cl C X.env) fp) tg (LG X.K (own.map (·.2)) dg)) (ht : ∀ (s : Shared) (H : Hp) (C : Addr) (cl : List (Str × Addr)) (fp : List Addr), PTs (X.blk s H scope (compEnvC scope cl C X.env) fp) ifs (LMT X.K T W0 cond))
    (he : ∀ (s : Shared) (H : Hp) (C : Addr) (cl : List (Str × Addr)) (fp : List Addr), PE (X.blk s H scope (compEnvC scope cl C X.env) fp) elt (LM X.K T W0 true de)) (hs : ∀ x, foldedSetIterable iter X.env x = pure x := by intro _; rfl) :
    PE X (.ListComp elt [⟨tg, iter, ifs, 0⟩] scope pos) (LM X.K T W true (mLc di dg cond de (own.map (·.2)))) := imE (pe_lc hc hN hi ok hg ht he hs) lm_lc
theorem mqts_nil : PTs X [] (LMT X.K T W mYes) := ⟨fun pins s t H Q I ⟨B, r, S, xc, P, g, h, hx, hq⟩ => pts_nil.run pins s t H Q I (hq true H B S (.refl g.kp g.st) h)⟩
theorem mqts_one {c : Expr} {t : MT} (h : PT X c (LMT X.K T W t)) : PTs X [c] (LMT X.K T W t) := pts_one h
/-! ### statements -/
def mNext : MS := fun _ E r S => E.nx r S
def mSeq (t u : MS) : MS := fun xc E r S => t xc { E with nx := u xc E } r S
def mSet (i : Nat) (de : ME) : MS := fun xc E r S => de xc r S fun x S1 => E.nx (st r i (some x)) S1
def mRet (de : ME) : MS := fun xc E r S => de xc r S E.rt
def mRetV (i : Nat) : MS := fun xc E r S => match lk r i with
  | some x => E.rt x S
  | none => False
def mRetN : MS := fun _ E _ S => E.rt (.dat .non) S
def mDrop (de : ME) : MS := fun xc E r S => de xc r S fun _ S1 => E.nx r S1
def mIfS (t : MT) (u v : MS) : MS := fun xc E r S => t xc r S fun b S1 => ifB b (u xc E r S1) (v xc E r S1)
def mBreak : MS := fun _ E r S => E.bk r S
def mCont : MS := fun _ E r S => E.ct r S
theorem mqss_nil : PSs X [] (LMS X.K T W mNext) := imSs pss_nil fun E s H ⟨B, r, S, xc, De, g, h, hx, nx, bk, ct, rt⟩ => nx s r H B S (.refl g) h
theorem mqs_pass {pos : Pos} : PS X (.Pass pos) (LMS X.K T W mNext) := imS ps_pass fun E s H ⟨B, r, S, xc, De, g, h, hx, nx, bk, ct, rt⟩ => nx s r H B S (.refl g) h
theorem mqs_break {pos : Pos} : PS X (.Break pos) (LMS X.K T W mBreak) := imS ps_break fun E s H ⟨B, r, S, xc, De, g, h, hx, nx, bk, ct, rt⟩ => bk s r H B S (.refl g) h
theorem mqs_continue {pos : Pos} : PS X (.Continue pos) (LMS X.K T W mCont) := imS ps_continue fun E s H ⟨B, r, S, xc, De, g, h, hx, nx, bk, ct, rt⟩ => ct s r H B S (.refl g) h
theorem owns1 {v : V} {x : Val} {a : Addr} (h : Owns [some v] [some x] a) : v = .ref a ∧ ∃ c, x = .tmp c := by
  obtain ⟨j, c, h1, h2⟩ := h
  cases j with
  | zero => exact ⟨Option.some.inj (Option.some.inj h2), c, Option.some.inj h1⟩
  | succ j => cases h1
theorem env1 {K : PySem.W.Frag} {B H : Hp} {v : V} {x : Val} (rv : RepV K B H v x) : EnvRep K B H [some v] [some x] := by
  refine ⟨rfl, fun i y h => ?_, fun i j c c' a h1 h2 h3 h4 => ?_⟩
  · cases i with
    | zero => cases (show x = y from Option.some.inj h); exact ⟨v, rfl, rv⟩
    | succ i => cases h
  · cases i with
    | zero =>
      cases j with
      | zero => rfl
      | succ j => cases h2
    | succ i => cases h1
/-- a statement that leaves the store alone -/
theorem _root_.Dl.StepS.m {K : PySem.W.Frag} {T : Tbs} {B H B' H' : Hp} {S : Sto} {s s' : L2.St} {r r' : DEnv} (z : StepS B H s r B' H' s' r') (g : Good K T B H s r S) (en : EnvRep K B' H' s' r') : SMS K T B H S s r B' H' S s' r' := by
  have nown : ∀ a φ, H a = some (.ext φ) → ¬ Owns s r a := fun a φ h ow => by
    obtain ⟨o, ho, pl, _⟩ := g.owned ow
    rw [h] at ho
    cases ho
    exact pl.2 φ rfl
  have ke : ∀ a φ, H a = some (.ext φ) → H' a = some (.ext φ) := fun a φ h => by
    cases e : B a with
    | none => exact (z.out a _ h e (nown a φ h)).1
    | some o =>
      by_cases d : DrawO o
      · obtain ⟨u, hu, du⟩ := (g.kp a o e).2 d
        rw [h] at hu
        cases hu
        exact (mv_ext du).elim
      · have h1 := (g.kp a o e).1 d
        rw [h] at h1
        cases h1
        exact (z.sub a _ ((z.kp a _ e).1 d)).1 d
  have cell : ∀ a c, S a = some c → ∃ o, H a = some o ∧ H' a = some o ∧ B' a = none ∧ ¬ Owns s' r' a := fun a c h => by
    obtain ⟨o, ho, _, n⟩ := g.cell h
    exact ⟨o, ho, z.out a o ho n (g.dj a c h)⟩
  have tbl : ∀ p ∈ T, ∃ ps, H p.1 = some (.tbl ps) ∧ H' p.1 = some (.tbl ps) ∧ B' p.1 = none := fun p hp => by
    obtain ⟨ps, e, _⟩ := g.tb p hp
    have e : H p.1 = some (.tbl ps) := e
    have q := z.out p.1 _ e (g.tn p hp) fun ow => by
      obtain ⟨o, ho, pl, _⟩ := g.owned ow
      exact pl.1 ⟨p.2, hp⟩
    exact ⟨ps, e, q.1, q.2.1⟩
  refine ⟨z.kp, fun a o h t n m w => let q := z.out a o h n w; ⟨q.1, q.2.1, m, q.2.2⟩, ke, z.has, fun a c h => (cell a c h).choose_spec.2.2.2, z.sub, en, fun a c h => ?_, fun a c h => (cell a c h).choose_spec.2.2.2, fun p hp => ?_, fun p hp => (tbl p hp).choose_spec.2.2⟩
  · obtain ⟨o, h1, h2, h3, _⟩ := cell a c h
    exact ⟨h3, (g.st a c h).2.move z.kp fun u hu => by rw [h1] at hu; cases hu; exact h2⟩
  · obtain ⟨ps, e1, e2, e3⟩ := g.tb p hp
    obtain ⟨qs, f1, f2, _⟩ := tbl p hp
    have e1' : H p.1 = some (.tbl ps) := e1
    rw [f1] at e1'
    cases e1'
    refine ⟨_, f2, e2, fun pos cv hc => ?_⟩
    obtain ⟨c, d1, d2⟩ := e3 pos cv hc
    exact ⟨c, d1, ke _ _ d2⟩
def mUS (ds : DS) : MS := fun xc E r S => ds (fun e r => xc e r S) { nx := fun r => E.nx r S, rt := fun v => E.rt v S, bk := fun r => E.bk r S, ct := fun r => E.ct r S } r
theorem m_upS {a : Stmt} {ds : DS} (h : PS X a (LS X.K W ds)) : PS X a (LMS X.K T W (mUS ds)) :=
  imS h fun E s H ⟨B, r, S, xc, De, g, h, hx, nx, bk, ct, rt⟩ => ⟨B, r, _, _, g.kp, g.en, h, fun cls d e s' r' H' B' z en' => hx cls d e s' r' H' B' S (z.m g en'), fun s' r' H' B' z en' => nx s' r' H' B' S (z.m g en'), fun s' r' H' B' z en' => bk s' r' H' B' S (z.m g en'), fun s' r' H' B' z en' => ct s' r' H' B' S (z.m g en'), fun v x H' B' z rv => rt v x H' B' S (z.m g (env1 rv))⟩
/-- a local's own container becomes shared -/
def mFz (i : Nat) (ds : MS) : MS := fun xc E r S => (match lk r i with
  | some (.tmp c) => c.safe
  | _ => True) ∧ ds xc E (fz r i) S
theorem mqs_fz (i : Nat) {a : Stmt} {ds : MS} (h : PS X a (LMS X.K T W ds)) : PS X a (LMS X.K T W (mFz i ds)) := by
  refine imS h fun E s H ⟨B, r, S, xc, De, g, h, hx, nx, bk, ct, rt⟩ => ?_
  obtain ⟨hc, h⟩ := h
  obtain ⟨B', z, en2⟩ := fz_step i g.kp g.en hc
  have z := z.m g en2
  exact ⟨B', _, S, xc, De, z.gd, h, fun cls d e s2 r2 H2 B2 S2 z2 => hx cls d e s2 r2 H2 B2 S2 (z.trans g z2), fun s2 r2 H2 B2 S2 z2 => nx s2 r2 H2 B2 S2 (z.trans g z2), fun s2 r2 H2 B2 S2 z2 => bk s2 r2 H2 B2 S2 (z.trans g z2), fun s2 r2 H2 B2 S2 z2 => ct s2 r2 H2 B2 S2 (z.trans g z2), fun v x H2 B2 S2 z2 => rt v x H2 B2 S2 (z.trans g z2)⟩
theorem mqss_one {a : Stmt} {t : MS} (h : PS X a (LMS X.K T W t)) : PSs X [a] (LMS X.K T W t) := pss_one h
theorem mqss_cons {a : Stmt} {rest : List Stmt} {t u : MS} (h1 : PS X a (LMS X.K T W t)) (h2 : PSs X rest (LMS X.K T W u)) : PSs X (a :: rest) (LMS X.K T W (mSeq t u)) := by
  refine imSs (pss_cons h1 h2) fun E s H ⟨B, r, S, xc, De, g, h, hx, nx, bk, ct, rt⟩ => ?_
  refine ⟨B, r, S, xc, { De with nx := u xc De }, g, h, hx, fun s' r' H' B' S' z q => ?_, bk, ct, rt⟩
  exact ⟨B', r', S', xc, De, z.gd, q, fun cls d e s2 r2 H2 B2 S2 z2 => hx cls d e s2 r2 H2 B2 S2 (z.trans g z2), fun s2 r2 H2 B2 S2 z2 => nx s2 r2 H2 B2 S2 (z.trans g z2), fun s2 r2 H2 B2 S2 z2 => bk s2 r2 H2 B2 S2 (z.trans g z2), fun s2 r2 H2 B2 S2 z2 => ct s2 r2 H2 B2 S2 (z.trans g z2), fun v x H2 B2 S2 z2 => rt v x H2 B2 S2 (z.trans g z2)⟩
/-- a name is stored -/
theorem SMS.set {K : PySem.W.Frag} {B H B' H' : Hp} {S S' : Sto} {s : L2.St} {r : DEnv} {i : Nat} {v : V} {x : Val} (g : Good K T B H s r S) (z : SM K T B H S B' H' S') (rv : RepM K T B' H' S' v x) (f : Fr H v x) : SMS K T B H S s r B' H' S' (s.set i (some v)) (st r i (some x)) := by
  have g' := g.step z
  have ow : ∀ a, Owns (s.set i (some v)) (st r i (some x)) a → Owns s r a ∨ (v = .ref a ∧ ∃ c, x = .tmp c) := fun a o => Owns.set o
  refine ⟨z.kp, fun a o h t n m w => ?_, z.ext, z.has, fun a c h o => ?_, ⟨z.sub, g'.en.set rv.1 fun a c e ex o => ?_, z.st, fun a c h o => ?_, z.tab g.tn g.tb, z.tn g.tb g.tn⟩⟩
  · have q := z.out a o h t n m
    refine ⟨q.1, q.2.1, q.2.2, fun o2 => (ow a o2).elim w fun ⟨e, c, ex⟩ => by rw [f a c e ex] at h; cases h⟩
  · rcases ow a o with w | ⟨e, c2, ex⟩
    · exact g.dj a c h w
    · obtain ⟨u, hu, _⟩ := g.cell h
      rw [f a c2 e ex] at hu
      cases hu
  · obtain ⟨u, hu, _⟩ := g.owned o
    rw [f a c e ex] at hu
    cases hu
  · rcases ow a o with w | ⟨e, c2, ex⟩
    · exact g'.dj a c h w
    · rw [(rv.2 a c2 e ex).1] at h
      cases h
theorem mqs_set {i : Nat} {x : Str} {e : Expr} {de : ME} {pos pos' : Pos} (hN : X.N.Nodup) (hi : X.N[i]? = some x) (hx : Loc X.env.scope x) (he : PE X e (LM X.K T W true de)) (hs : swapsWith e (some (.Name x pos')) pos.line X.env = pure false := by rfl) (hf : X.fn x = true ∨ X.env.scope.names.lookup x = some .local := by first | exact .inl rfl | exact .inr rfl | assumption) :
    PS X (.Assign [.Name x pos'] e pos) (LMS X.K T W (mSet i de)) := by
  refine imS (ps_set hN hi hx he hs hf) fun E s H ⟨B, r, S, xc, De, g, h, hx, nx, bk, ct, rt⟩ => ?_
  exact ⟨B, r, S, xc, _, g, h, fun cls d e H' B' S' z => hx cls d e s r H' B' S' (z.s g), fun v x H' B' S' z rv fr p => nx _ _ H' B' S' (.set g z rv (fr rfl)) p⟩
/-- a value is handed out -/
theorem SMS.rt {K : PySem.W.Frag} {B H B' H' : Hp} {S S' : Sto} {s : L2.St} {r : DEnv} {v : V} {x : Val} (g : Good K T B H s r S) (z : SM K T B H S B' H' S') (rv : RepM K T B' H' S' v x) (f : Fr H v x) : SMS K T B H S s r B' H' S' [some v] [some x] := by
  refine ⟨z.kp, fun a o h t n m w => ?_, z.ext, z.has, fun a c h o => ?_, ⟨z.sub, env1 rv.1, z.st, fun a c h o => ?_, z.tab g.tn g.tb, z.tn g.tb g.tn⟩⟩
  · have q := z.out a o h t n m
    refine ⟨q.1, q.2.1, q.2.2, fun o2 => ?_⟩
    obtain ⟨e, c, ex⟩ := owns1 o2
    rw [f a c e ex] at h
    cases h
  · obtain ⟨e, c2, ex⟩ := owns1 o
    obtain ⟨u, hu, _⟩ := g.cell h
    rw [f a c2 e ex] at hu
    cases hu
  · obtain ⟨e, c2, ex⟩ := owns1 o
    rw [(rv.2 a c2 e ex).1] at h
    cases h
theorem mqs_ret {e : Expr} {de : ME} {pos : Pos} (he : PE X e (LM X.K T W true de)) : PS X (.Return (some e) pos) (LMS X.K T W (mRet de)) := by
  refine imS (ps_ret he) fun E s H ⟨B, r, S, xc, De, g, h, hx, nx, bk, ct, rt⟩ => ?_
  exact ⟨B, r, S, xc, _, g, h, fun cls d e H' B' S' z => hx cls d e s r H' B' S' (z.s g), fun v x H' B' S' z rv fr p => rt v x H' B' S' (.rt g z rv (fr rfl)) p⟩
theorem mqs_retV (i : Nat) {x : Str} {pos pos' : Pos} (hN : X.N[i]? = some x := by rfl) (hv : Vis X.env.scope x := by first | exact Or.inl rfl | exact Or.inr (Or.inl rfl) | exact Or.inr (Or.inr rfl)) (hd : (x == ("__debug__" : Str)) = false := by decide)
    (hcd : (x == ("__classdict__" : Str)) = false := by decide) : PS X (.Return (some (.Name x pos)) pos') (LMS X.K T W (mRetV i)) := by
  refine imS (ps_ret (pv i hN hv hd hcd)) fun E s H ⟨B, r, S, xc, De, g, h, hx, nx, bk, ct, rt⟩ => ?_
  unfold mRetV at h
  cases e : lk r i with
  | none => rw [e] at h; exact h.elim
  | some y =>
    rw [e] at h
    obtain ⟨v, h1, h2⟩ := g.at_ e
    have ow : ∀ a, Owns [some v] [some y] a → Owns s r a := fun a o => by
      obtain ⟨e1, c, ex⟩ := owns1 o
      subst e1 ex
      exact ⟨i, c, e, h1⟩
    exact ⟨v, h1, rt v y H B S ⟨.refl B, fun a o ha t n m w => ⟨ha, n, m, fun o2 => w (ow a o2)⟩, fun _ _ h => h, fun _ o h => ⟨o, h⟩, fun a c h o2 => g.dj a c h (ow a o2), ⟨g.kp, env1 h2.1, g.st, fun a c h o2 => g.dj a c h (ow a o2), g.tb, g.tn⟩⟩ h⟩
theorem mqs_retN {pos : Pos} : PS X (.Return none pos) (LMS X.K T W mRetN) := by
  refine imS ps_retN fun E s H ⟨B, r, S, xc, De, g, h, hx, nx, bk, ct, rt⟩ => ?_
  exact rt .non (.dat .non) H B S (.rt g (.refl g.kp g.st) (.dat .non) Fr.dat) h
theorem mqs_expr {e : Expr} {de : ME} {pos : Pos} {f : Bool} (he : PE X e (LM X.K T W f de)) (hs : swapsWith e none pos.line X.env = pure false := by rfl) : PS X (.Expr e pos) (LMS X.K T W (mDrop de)) := by
  refine imS (ps_expr he hs) fun E s H ⟨B, r, S, xc, De, g, h, hx, nx, bk, ct, rt⟩ => ?_
  exact ⟨B, r, S, xc, _, g, h, fun cls d e H' B' S' z => hx cls d e s r H' B' S' (z.s g), fun v x H' B' S' z rv fr p => nx _ _ H' B' S' (z.s g) p⟩
theorem mqs_if {c : Expr} {a b : List Stmt} {pos : Pos} {t : MT} {u v : MS} (hc : PT X c (LMT X.K T W t)) (ha : PSs X a (LMS X.K T W u)) (hb : PSs X b (LMS X.K T W v)) : PS X (.If c a b pos) (LMS X.K T W (mIfS t u v)) := by
  refine imS (ps_if hc ha hb) fun E s H ⟨B, r, S, xc, De, g, h, hx, nx, bk, ct, rt⟩ => ?_
  refine ⟨B, r, S, xc, _, g, h, fun cls d e H' B' S' z => hx cls d e s r H' B' S' (z.s g), fun b H1 B1 S1 z q => ?_⟩
  cases b with
  | true =>
    unfold ifB at q; rw [if_pos rfl] at q ⊢
    exact ⟨B1, r, S1, xc, De, g.step z, q, fun cls d e s2 r2 H2 B2 S2 z2 => hx cls d e s2 r2 H2 B2 S2 ((z.s g).trans g z2), fun s2 r2 H2 B2 S2 z2 => nx s2 r2 H2 B2 S2 ((z.s g).trans g z2), fun s2 r2 H2 B2 S2 z2 => bk s2 r2 H2 B2 S2 ((z.s g).trans g z2), fun s2 r2 H2 B2 S2 z2 => ct s2 r2 H2 B2 S2 ((z.s g).trans g z2), fun v x H2 B2 S2 z2 => rt v x H2 B2 S2 ((z.s g).trans g z2)⟩
  | false =>
    unfold ifB at q; rw [if_neg Bool.false_ne_true] at q ⊢
    exact ⟨B1, r, S1, xc, De, g.step z, q, fun cls d e s2 r2 H2 B2 S2 z2 => hx cls d e s2 r2 H2 B2 S2 ((z.s g).trans g z2), fun s2 r2 H2 B2 S2 z2 => nx s2 r2 H2 B2 S2 ((z.s g).trans g z2), fun s2 r2 H2 B2 S2 z2 => bk s2 r2 H2 B2 S2 ((z.s g).trans g z2), fun s2 r2 H2 B2 S2 z2 => ct s2 r2 H2 B2 S2 ((z.s g).trans g z2), fun v x H2 B2 S2 z2 => rt v x H2 B2 S2 ((z.s g).trans g z2)⟩
def FoM (tg : DG) (body : MS) (xc : MX) (E : MEnds) (r : DEnv) (items : List D) (cs : Option Addr) (S : Sto) : Prop := ∃ I : Nat → DEnv → Sto → Prop, I 0 r S ∧ (∀ i r S', I i r S' → Keep cs S S') ∧
  (∀ i x r S', items[i]? = some x → I i r S' → tg x r fun r2 => body xc { E with nx := I (i + 1), ct := I (i + 1), bk := E.nx } r2 S') ∧ ∀ r S', I items.length r S' → E.nx r S'
def mFor (di : MI) (tg : DG) (body : MS) : MS := fun xc E r S => di xc r S (FoM tg body xc E r)
theorem mqs_for {tg iter : Expr} {body : List Stmt} {pos : Pos} {di : MI} {dg : DG} {vs : List Nat} {db : MS} (hp : PassesOwn (model X.prog X.w) X.A X.env X.xe) (hc : X.calm = true) (hi : PI X tg iter (LMI X.K T W di)) (hg : PG X tg (LG X.K vs dg)) (hb : PSs X body (LMS X.K T W db))
    (hs : ∀ x, foldedSetIterable iter X.env x = pure x := by intro _; rfl) : PS X (.For tg iter body [] pos) (LMS X.K T W (mFor di dg db)) := by
  refine imS (ps_for hp hc hi hg hb hs) fun E s H ⟨B, r, S, xc, De, g, h, hx, nx, bk, ct, rt⟩ => ?_
  refine ⟨B, r, S, xc, _, g, h, fun cls d e H' B' S' z => hx cls d e s r H' B' S' (z.s g), fun J items cs H1 B1 S1 src z1 hsrc it q => ?_⟩
  obtain ⟨I, i0, keep, turn, fin⟩ := q
  have g1 := g.step z1
  refine ⟨fun i m s2 H2 => ∃ B2 r2 S2, m = items.length - i ∧ i ≤ items.length ∧ SMS X.K T B1 H1 S1 s r B2 H2 S2 s2 r2 ∧ I i r2 S2, ⟨items.length, B1, r, S1, by omega, Nat.zero_le _, .refl g1, i0⟩, ?_⟩
  rintro i m s2 H2 ⟨B2, r2, S2, rfl, hi, z2, inv⟩
  have src2 : ∀ p o, src p → H1 p = some o → H2 p = some o ∧ B2 p = none := fun p o hp ho => by
    obtain ⟨h0, h1, h2, o2, e2, h3⟩ := hsrc p hp
    rw [ho] at e2; cases e2
    have w : ¬ Owns s r p := fun ow => by
      obtain ⟨o, h, _⟩ := g.owned ow
      rw [h0] at h
      cases h
    exact ⟨(z2.out p o ho h3 h1 h2 w).1, (z2.out p o ho h3 h1 h2 w).2.1⟩
  have zz := it B2 H2 S2 i z2.kp z2.gd.kp z2.gd.st src2 (keep i r2 S2 inv)
  by_cases hlt : i < items.length
  · obtain ⟨d, hd⟩ : ∃ d, items[i]? = some d := ⟨items[i], by simp [hlt]⟩
    obtain ⟨go, yl⟩ := zz.1 d hd
    refine .inr ⟨go, fun s3 H3 => ∃ B3 r3 S3, SMS X.K T B1 H1 S1 s r B3 H3 S3 s3 r3 ∧ I (i + 1) r3 S3, fun s3 H3 ⟨B3, r3, S3, z3, inv3⟩ => ⟨items.length - (i + 1), by omega, B3, r3, S3, rfl, hlt, z3, inv3⟩, fun x H3 y => ?_⟩
    obtain ⟨B3, s3, rx⟩ := yl x H3 y
    have z3 := s3.m (T := T) z2.gd.kp z2.gd.st
    have g3 := z2.gd.step z3
    refine ⟨B3, r2, d, _, g3.kp, g3.en, rx, turn i d r2 S2 hd inv, fun s4 r4 en4 hw ow q => ?_⟩
    have g4 := g3.env en4 ow
    have z4 : SMS X.K T B1 H1 S1 s r B3 H3 S2 s4 r4 := z2.trans g1 ⟨z3.kp, fun a o h t n m w => let k := z3.out a o h t n m; ⟨k.1, k.2.1, k.2.2, fun q => w (ow a q)⟩, z3.ext, z3.has, fun a c h o => z2.gd.dj a c h (ow a o), g4⟩
    have z14 : SMS X.K T B H S s r B3 H3 S2 s4 r4 := (z1.s g).trans g z4
    exact ⟨B3, r4, S2, xc, _, g4, q, fun cls d e s5 r5 H5 B5 S5 z5 => hx cls d e s5 r5 H5 B5 S5 (z14.trans g z5), fun s5 r5 H5 B5 S5 z5 q5 => ⟨B5, r5, S5, z4.trans g1 z5, q5⟩, fun s5 r5 H5 B5 S5 z5 => nx s5 r5 H5 B5 S5 (z14.trans g z5), fun s5 r5 H5 B5 S5 z5 q5 => ⟨B5, r5, S5, z4.trans g1 z5, q5⟩, fun v x H5 B5 S5 z5 => rt v x H5 B5 S5 (z14.trans g z5)⟩
  · have e : i = items.length := by omega
    subst e
    exact .inl ⟨zz.2 rfl, nx s2 r2 H2 B2 S2 ((z1.s g).trans g z2) (fin r2 S2 inv)⟩
end
/-! ### a def keeps its promise -/
section
variable {P : Program} {w : World} {K : PySem.W.Frag} {T : Tbs} {mg : Str → Option Value} {base : Heap}
theorem fn_noM {CX : CXT} {k : Nat} {f : Addr} {fd : FuncData} {ps : List Str} {sp : MSp} (no : ∀ ds S xc R, ¬ sp ds S xc R) : FnOk P w K mg base CX k f fd ps (spM K T sp) :=
  have z : ∀ vs H Q E, ¬ spM K T sp vs H Q E := fun vs H Q E ⟨_, ds, S, xc, R, _, _, _, _, h, _⟩ => no ds S xc R h
  ⟨fun vs H Q E h => absurd h (z vs H Q E), fun A outer s H args us vs Q E _ _ _ _ h => absurd h (z vs H Q E)⟩
theorem good_start {N : List Str} {B H : Hp} {vs : List V} {ds : List D} {S : Sto} (k : Kp B H) (rl : RepL K B vs ds) (st : StRep K B H S) (tb : Tabs T H ∧ ∀ p ∈ T, B p.1 = none) : Good K T B H (L2.start N vs) (args N ds) S := ⟨k, args_rep rl, st, fun _ _ _ => noOwn, tb.1, tb.2⟩
theorem SMS.end_ {N : List Str} {B H B' H' : Hp} {vs : List V} {ds : List D} {S S' : Sto} {v : V} {x : Val} (z : SMS K T B H S (L2.start N vs) (args N ds) B' H' S' [some v] [some x]) (g : Good K T B H (L2.start N vs) (args N ds) S) : SM K T B H S B' H' S' ∧ RepM K T B' H' S' v x ∧ Fr H v x := by
  have rv : RepM K T B' H' S' v x := by
    obtain ⟨u, e, r⟩ := z.gd.at_ (i := 0) (x := x) rfl
    cases e
    exact r
  refine ⟨⟨z.kp, z.gd.kp, fun a o h t n m => let q := z.out a o h t n m noOwn; ⟨q.1, q.2.1, q.2.2.1⟩, z.ext, fun _ _ => z.gd.tb, fun _ _ => z.gd.tn, z.has, z.gd.st⟩, rv, fun p c e1 e2 => ?_⟩
  subst e1 e2
  cases e : H p with
  | none => rfl
  | some o =>
    have own : Owns [some (V.ref p)] [some (Val.tmp c)] p := ⟨0, c, rfl, rfl⟩
    have t := (rv.2 p c rfl rfl).2
    cases eb : B p with
    | some u =>
      obtain ⟨u2, h3⟩ := z.kp.some eb
      obtain ⟨q2, h2, n2, _⟩ := rv.1
      cases h2
      rw [n2] at h3
      cases h3
    | none =>
      cases es : S p with
      | some c2 => exact absurd own (z.ow p c2 es)
      | none =>
        refine absurd own (z.out p o e ⟨t, fun φ q => ?_⟩ eb es noOwn).2.2.2
        subst q
        have e3 := z.ext p φ e
        obtain ⟨o2, h2, t2, _⟩ := z.gd.owned own
        rw [e3] at h2
        cases h2
        exact t2.2 φ rfl
theorem SMS.endN {N : List Str} {B H B' H' : Hp} {vs : List V} {ds : List D} {S S' : Sto} {s' : L2.St} {r' : DEnv} (z : SMS K T B H S (L2.start N vs) (args N ds) B' H' S' s' r') : SM K T B H S B' H' S' :=
  ⟨z.kp, z.gd.kp, fun a o h t n m => let q := z.out a o h t n m noOwn; ⟨q.1, q.2.1, q.2.2.1⟩, z.ext, fun _ _ => z.gd.tb, fun _ _ => z.gd.tn, z.has, z.gd.st⟩
/-- a def that raises nothing -/
theorem fn_m {x qual : Str} {sm : Stmt} {f : Addr} {fd : FuncData} {N ps : List Str} {k : Nat} {sp : MSp} {body : MS} (F : Fun K x qual sm f fd) (Sc : FnScope N ps (defScope sm))
    (len : ∀ ds S xc R, sp ds S xc R → ds.length = ps.length)
    (hb : ∀ (cdv : Value) (A : Around) (outer : List Env) (s : Shared) (H : Hp), Room k (A.deeper (envOfC qual (defScope sm) s.heap.objs.size f cdv)) →
      PSs (cxOf CX0 P w K mg base N qual (defScope sm) f cdv A outer s H E0).nox (defBody sm) (LMS K T W0 body))
    (h : ∀ ds S xc R, sp ds S xc R → body XM0 { nx := fun _ S => R (.dat .non) S, rt := R } (args N ds) S) : FnOk P w K mg base CX0 (k + 1) f fd ps (spM K T sp) := by
  refine F.ok Sc (fun vs H Q E hq => ?_) (fun cdv A outer s H vs Q E hr hq => ?_)
  · obtain ⟨B, ds, S, xc, R, k, rl, _, _, hs, _⟩ := hq
    rw [rl.length]
    exact len ds S xc R hs
  · obtain ⟨B, ds, S, xc, R, k, rl, st, tb, hs, _, rt⟩ := hq
    refine ⟨_, hb cdv A outer s H hr, ?_⟩
    have g := good_start (N := N) k rl st tb
    refine ⟨B, args N ds, S, XM0, _, g, h ds S xc R hs, fun _ _ _ _ _ _ _ _ _ _ z => z.elim, fun s' r' H' B' S' z q => ?_, fun _ _ _ _ _ _ z => z.elim, fun _ _ _ _ _ _ z => z.elim, fun v x H' B' S' z q => ?_⟩
    · exact rt .non (.dat .non) H' B' S' z.endN (.dat .non) Fr.dat q
    · obtain ⟨z1, rv, fr⟩ := z.end_ g
      exact rt v x H' B' S' z1 rv fr q
/-- a def that may raise -/
theorem fn_mX {x qual : Str} {sm : Stmt} {f : Addr} {fd : FuncData} {N ps : List Str} {k : Nat} {sp : MSp} {body : MS} (F : Fun K x qual sm f fd) (Sc : FnScope N ps (defScope sm))
    (len : ∀ ds S xc R, sp ds S xc R → ds.length = ps.length)
    (hb : ∀ (cdv : Value) (A : Around) (outer : List Env) (s : Shared) (H : Hp) (E : XK), Room k (A.deeper (envOfC qual (defScope sm) s.heap.objs.size f cdv)) →
      PSs (cxOf (L2.CX P w) P w K mg base N qual (defScope sm) f cdv A outer s H E) (defBody sm) (LMS K T (fun cls d _ H => E cls d H) body))
    (h : ∀ ds S xc R, sp ds S xc R → body (fun e _ S => xc e S) { nx := fun _ S => R (.dat .non) S, rt := R } (args N ds) S) : FnOk P w K mg base (L2.CX P w) (k + 1) f fd ps (spM K T sp) := by
  refine F.okX Sc (fun vs H Q E hq => ?_) (fun cdv A outer s H vs Q E hr hq => ?_)
  · obtain ⟨B, ds, S, xc, R, k, rl, _, _, hs, _⟩ := hq
    rw [rl.length]
    exact len ds S xc R hs
  · obtain ⟨B, ds, S, xc, R, k, rl, st, tb, hs, hx, rt⟩ := hq
    refine ⟨_, hb cdv A outer s H E hr, ?_⟩
    have g := good_start (N := N) k rl st tb
    refine ⟨B, args N ds, S, fun e _ S => xc e S, _, g, h ds S xc R hs, fun cls d e s' r' H' B' S' z er q => hx cls d e H' B' S' z.endN er q, fun s' r' H' B' S' z q => ?_, fun _ _ _ _ _ _ z => z.elim, fun _ _ _ _ _ _ z => z.elim, fun v x H' B' S' z q => ?_⟩
    · exact rt .non (.dat .non) H' B' S' z.endN (.dat .non) Fr.dat q
    · obtain ⟨z1, rv, fr⟩ := z.end_ g
      exact rt v x H' B' S' z1 rv fr q
/-- the law's entry, without tables -/
theorem law_inM {sp : MSp} {H : Hp} {a : Addr} {ns : List Int} (hS : SqL K H a (ns.map V.int)) (h : sp [.scr ns] (fun _ => none) (fun _ _ => False) (fun v _ => v = .dat (.bl true))) : spM K [] sp [.ref a] H (fun v _ => v = .bl true) fun _ _ _ => False :=
  ⟨H, [.scr ns], fun _ => none, fun _ _ => False, fun v _ => v = .dat (.bl true), .refl H, .cons (.scr hS) .nil, (fun _ _ e => nomatch e), ⟨fun _ h => (nomatch h), fun _ h => nomatch h⟩, h, fun _ _ _ _ _ _ _ _ z => z.elim, fun v x H' B' S' z rv fr p => by subst p; cases rv.1; rfl⟩
end
end Ml
/-! Ml4: exceptions: raised, caught and kept as values. -/
namespace Ml
open PySem PySem.Spec PyProof.Rows L2 Dl LamX
section
variable {X : Cx} {pins : List (Addr × Obj)} {σ : L2.St} {H : Hp} {s : Shared}
theorem exX_ok {P : Program} {w : World} {h : Heap} {a : Addr} {cls : Value} {d : Option Addr} {oe : Obj} {vs : Array Value} (ha : h.get? a = some oe) (hz : Zc cls d oe) (hd : oe.data = .fields vs) : ObjOk P w H h a (ExX cls d a) :=
  ⟨⟨oe, vs, ha, hz, hd⟩, ⟨oe, ha⟩, fun _ _ ⟨o1, v1, q1, z1, d1⟩ keep => ⟨o1, v1, keep o1 q1, z1, d1⟩⟩
/-- an object that nobody told of is told of from now on -/
theorem track {a : Addr} {cls : Value} {d : Option Addr} {oe : Obj} {vs : Array Value} (I : Inv X pins σ H s) (ha : s.heap.get? a = some oe) (hz : Zc cls d oe) (hd : oe.data = .fields vs) (na : H a = none) (nL : a ≠ X.env.locals)
    (np : ∀ p ∈ X.pn ++ pins, p.1 ≠ a) (n0 : X.s_0.heap.get? a = none) : Inv X pins σ (upd H a (ExX cls d a)) s := by
  have off : ∀ {b : Addr} {u : HO}, H b = some u → b ≠ a := fun h => ne_of_none h na
  refine ⟨I.ok, I.os, I.bare, ⟨I.base.keep, I.base.slot, fun b o hb hn hx => ?_, I.base.there, fun b xs hb => ?_, fun b o xs hb => ?_, fun b ps hb => ?_⟩, I.loc, I.cell, ?_, fun y c hc => ?_, fun p hp => ?_, fun b u hb => ?_, I.len⟩
  · rw [upd_ne (fun z => by rw [z, n0] at hb; cases hb)]
    exact I.base.free b o hb hn hx
  · have q := I.base.tups b xs hb
    rw [upd_ne (off q)]
    exact q
  · have q := I.base.frzs b o xs hb
    rw [upd_ne (off q)]
    exact q
  · obtain ⟨more, q⟩ := I.base.tbls b ps hb
    exact ⟨more, by rw [upd_ne (off q)]; exact q⟩
  · rw [upd_ne nL.symm]
    exact I.free
  · obtain ⟨v, oc, hoc, hdc⟩ := I.cell y c hc
    rw [upd_ne (fun z => by rw [z, ha] at hoc; cases hoc; rw [hd] at hdc; cases hdc)]
    exact I.freeC y c hc
  · obtain ⟨p1, p2, p3⟩ := I.pin p hp
    exact ⟨p1, by rw [upd_ne (np p hp)]; exact p2, p3⟩
  · by_cases z : b = a
    · subst z
      rw [upd_same] at hb
      cases hb
      exact exX_ok ha hz hd
    · rw [upd_ne z] at hb
      exact (I.hok b u hb).stay (fun _ _ _ q => q) (fun c q => by rw [upd_ne (off q)]; exact q) fun c xs q => by rw [upd_ne (off q)]; exact q
end
/-- what 'except c as n: m = n' wishes of an exception of the body: slots i, j are n's and m's -/
def wKeep (K : PySem.W.Frag) (c : Value) (i j : Nat) (Wout : WX) (D : Ends) : WX := fun cls d σ H => ∃ b, PySem.W.exmOne K cls c = some b ∧
  (b = true → ∀ a, H a = none → D.nx (((σ.set i (some (.ref a))).set j (some (.ref a))).set i none) (upd H a (ExX cls d a))) ∧ (b = false → Wout cls d σ H)
section
variable {X : Cx} {x n m : Str} {c : Value} {i j : Nat} {body : List Stmt} {np pos pos' q1 q2 q3 : Pos} {tb : WX → TS} {Wout : WX}
theorem ps_try_keep (hst : X.stack = X.env :: X.outer) (hfr0 : X.env.frame = some X.env.locals) (hex : X.ex = []) (hN : X.N.Nodup) (hi : X.N[i]? = some n) (hj : X.N[j]? = some m) (hln : X.env.kindOf n = some .local) (hlm : X.env.kindOf m = some .local) (hc : Names X x c) (tk : Takes X Wout)
    (hd1 : (n == ("__debug__" : Str)) = false) (hd2 : (n == ("__classdict__" : Str)) = false)
    (hb : ∀ (W : WX) (pn : List (Addr × Obj)) (xe : Value → Shared → Prop), Takes (X.tr pn xe) W → PassesOwn (model X.prog X.w) X.A X.env xe → PSs (X.tr pn xe) body (tb W))
    (hsw : ∀ (a : Addr) (pn : List (Addr × Obj)), swapsWith (.Name n q1) (some (.Name m q2)) q3.line (X.suite a pn).env = pure false := by intro _ _; rfl) :
    PS X (.Try body [.ExceptHandler (some (.Name x np)) (some n) [.Assign [.Name m q2] (.Name n q1) q3] pos'] [] [] pos) (fun D σ H => tb (wKeep X.K c i j Wout D) D σ H) := by
  refine ⟨fun pins s σ H D I h => ?_⟩
  have okX := I.ok
  have hfrs : X.A.frames = some (X.env :: X.outer) := by rw [okX.frames, hst]
  have locn : Loc X.env.scope n := .inl hln
  have locm : Loc X.env.scope m := .inl hlm
  refine wpAny_Try_except ?_
  have run := (hb (wKeep X.K c i j Wout D) (X.pn ++ pins) (fun e s₁ => wpAny (model X.prog X.w) X.A (noteFrame e X.env) (fun _ s₂ => wpAny (model X.prog X.w) X.A (setFlight e none)
    (fun _ s₃ => wpAny (model X.prog X.w) X.A (handleBy e X.env [.ExceptHandler (some (.Name x np)) (some n) [.Assign [.Name m q2] (.Name n q1) q3] pos']) (SP X pins D) X.xe s₃) X.xe s₂) X.xe s₁) (fun u sx air => ?_) PassesOwn.looking).run [] s σ H D (I.toTry _) h
  · refine wpAny_mono run (fun fl sy fin => ?_) (fun e sy he => he)
    cases fl with
    | next =>
      obtain ⟨σ1, H1, J1, w1⟩ := fin
      exact wpAny_execs_nil ⟨σ1, H1, J1.ofTry okX, w1⟩
    | brk =>
      obtain ⟨σ1, H1, J1, w1⟩ := fin
      exact ⟨σ1, H1, J1.ofTry okX, w1⟩
    | cont =>
      obtain ⟨σ1, H1, J1, w1⟩ := fin
      exact ⟨σ1, H1, J1.ofTry okX, w1⟩
    | ret u =>
      obtain ⟨v1, σ1, H1, J1, r1, w1⟩ := fin
      exact ⟨v1, σ1, H1, J1.ofTry okX, r1, w1⟩
  · obtain ⟨a, B, sI, pins1, σ1, H1, cls, d, rfl, Jt, nb, up0, sky0, na, os0, ag0, b, hb1, yes, no⟩ := air
    have J : Inv X pins σ1 H1 sI := Jt.ofTry okX
    have skyE : Sky B (X.env :: X.outer) a (Zc cls d) X.env.locals sx.heap := by rw [← hst]; exact sky0
    show wpAny (model X.prog X.w) X.A (noteFrame (.ref a) X.env) _ _ _
    refine Sky.land Zc.steady hfrs hfr0 skyE fun h3 fl3 up3 => ?_
    have Bn : B.get? a = none := fl3.2.1
    have J3 : Inv X pins σ1 H1 { sx with heap := h3 } := J.landed nb fl3.1 (up0.trans up3) os0 ag0
    obtain ⟨o3, v3, e3, z3, d3⟩ := fl3.there
    have outf : ∀ {h : Heap} {o : Obj} {vs : Array Value}, h.FunFrames B (X.env :: X.outer) → h.get? a = some o → o.data = .fields vs → a ∉ frs (X.env :: X.outer) := fun {h o vs} ff e dd hm => by
      obtain ⟨_, o2, e2, nf⟩ := ff.mem hm
      rw [e] at e2
      cases e2
      exact nf _ dd
    have notf := outf fl3.2.2.1 e3 d3
    have nL : a ≠ X.env.locals := fun z => notf (List.mem_filterMap.mpr ⟨X.env, List.mem_cons_self, by rw [hfr0, z]⟩)
    have nF : a ∉ X.fs := fun hm => by
      obtain ⟨e, he, q⟩ := List.mem_filterMap.mp hm
      exact notf (List.mem_filterMap.mpr ⟨e, List.mem_cons_of_mem _ he, q⟩)
    have n0 : X.s_0.heap.get? a = none := by
      cases e : X.s_0.heap.get? a with
      | none => rfl
      | some o =>
        obtain ⟨o2, e2⟩ := J.base.there a o e (by rw [hex]; exact fun z => nomatch z)
        have e4 := nb a o2 e2 (by rw [hst]; exact notf)
        rw [Bn] at e4
        cases e4
    have nP : ∀ p ∈ X.pn ++ pins, p.1 ≠ a := fun p hp z => by
      obtain ⟨g1, _, g2, g3, _⟩ := J.pin p hp
      have e4 := nb p.1 p.2 g1 (fun hm => by
        rw [hst] at hm
        obtain ⟨e, he, q⟩ := List.mem_filterMap.mp hm
        rcases List.mem_cons.mp he with e1 | e1
        · rw [e1, hfr0] at q
          exact g2 (Option.some.inj q).symm
        · exact g3 (List.mem_filterMap.mpr ⟨e, e1, q⟩))
      rw [z, Bn] at e4
      cases e4
    have S3 := J3.suite e3 d3 na nL nF
    refine wpAny_handleBy_cons (codeAny_handlers_test ?_) (by intro q; cases q)
    have LT : PySem.W.Looks (model X.prog X.w) h3 (typeOf (.ref a)) cls := fun A Q E s k q => wpAny_typeOf_ref (k _ _ e3) (by rw [z3.1]; exact q)
    have LMm := PySem.W.exm_one (M := model X.prog X.w) (J3.kIn) LT hb1
    have asked : ∀ {Q : Value → Shared → Prop} {E : Value → Shared → Prop}, Q c { sx with heap := h3 } → wpAny (model X.prog X.w) (X.A.mark (some (.ref a))) (eval (.Name x np) X.env) Q E { sx with heap := h3 } := fun {Q E} q => by
      obtain ⟨hg, hdbg, hm | ⟨hm, hv, hnn⟩⟩ := hc
      · exact ld_glob (X := X.suite a ((a, o3) :: (X.pn ++ pins))) S3 hg hm q hdbg
      · exact ld_blt (X := X.suite a ((a, o3) :: (X.pn ++ pins))) S3 hg hm hv q hnn hdbg
    refine asked (LMm.here ?_)
    cases b with
    | true =>
      refine codeAny_handlers_suite_as ?_
      refine HandSPX.lands_againZ fl3 fun h4 fl4 up4 => ?_
      have J4 : Inv X pins σ1 H1 { sx with heap := h4 } := J.landed nb fl4.1 ((up0.trans up3).trans up4) os0 ag0
      obtain ⟨o4, v4, e4, z4, d4⟩ := fl4.there
      have S4 := J4.suite e4 d4 na nL nF
      refine store_ok (X := X.suite a ((a, o4) :: (X.pn ++ pins))) (v := .ref a) S4 hN hi locn rfl (fun s5 S5 => ?_) (.inr hln)
      have li : i < σ1.length := by rw [J.len]; exact (List.getElem?_eq_some_iff.mp hi).1
      have sA : PSs (X.suite a ((a, o4) :: (X.pn ++ pins))) [.Assign [.Name m q2] (.Name n q1) q3] _ := pss_one (ps_set (X := X.suite a ((a, o4) :: (X.pn ++ pins))) hN hj locm (pe_var (pos := q1) hi (.inl hln) hd1 hd2) (hsw _ _) (.inr hlm))
      refine wpAny_mono (sA.run [] s5 _ H1 { nx := fun σ' H' => H' = H1 ∧ σ' = (σ1.set i (some (.ref a))).set j (some (.ref a)), rt := fun _ _ => False } S5 ⟨.ref a, List.getElem?_set_self li, rfl, rfl⟩) (fun fl s6 fin => ?_) (fun _ _ z => False.elim z)
      cases fl with
      | next =>
        obtain ⟨σ6, H6, S6, e6, e7⟩ := fin
        subst e6 e7
        have pinned := S6.pin (a, o4) (List.mem_append_left _ List.mem_cons_self)
        have J6 := track (S6.unsuite okX) pinned.1 z4 d4 na nL nP n0
        exact gone_ok J6 hN hi hln fun s7 J7 => ⟨_, _, J7, yes rfl a na⟩
      | brk =>
        obtain ⟨_, _, _, z⟩ := fin
        exact False.elim z
      | cont =>
        obtain ⟨_, _, _, z⟩ := fin
        exact False.elim z
      | ret u =>
        obtain ⟨_, _, _, _, _, z⟩ := fin
        exact False.elim z
    | false =>
      show wpAny _ X.A (handleBy (.ref a) X.env []) _ _ _
      refine wpAny_handleBy_nil ?_
      obtain ⟨k1, k2, k3, oe, vs, T0, oT, ts0, he, hz, hd, h1, hr⟩ := id fl3
      unfold PySem.passOn
      refine wpAny_bind (wpAny_field he hd h1 ?_)
      rw [if_neg (show ¬ ((Value.ref T0 == Value.none) = true) from by simp)]
      have goesOn : wpAny (model X.prog X.w) X.A (setFlight (.ref a) X.env.frame) (fun _ s4 => wpAny (model X.prog X.w) X.A (throw (.ref a) : Sem Flow) (SP X pins D) X.xe s4) X.xe { sx with heap := h3 } := by
        rw [hfr0]
        refine HandSPX.setFlight_upZ fl3 fun h4 hh4 up4 => wpAny_throw (tk _ _ ?_)
        exact ⟨a, B, sI, pins, σ1, H1, cls, d, rfl, J, nb, (up0.trans up3).trans up4, .inr (.inr (by rw [hst]; exact hh4)), na, os0, ag0, no rfl⟩
      first
        | exact wpAny_bind (wpAny_pure (wpAny_bind goesOn))
        | exact wpAny_bind goesOn
end
end Ml
/-! Ml5: raise, try, isinstance of exceptions, by data. -/
namespace Ml
open PySem PySem.Spec PyProof.Rows L2 Dl LamX
/-- is an error of the class x, one of those in R that may be raised, one of c -/
def isaT (R : List Str) (x c : Str) : Option Bool := if x ∈ R then some (decide (c = x) || decide (c = "GapError") || decide (c = "ValueError")) else none
structure ExcF (K : PySem.W.Frag) (C : Addr) : Prop where
  x : PySem.W.excIn K C [.type "ValueError", .type "Exception", .type "BaseException", .type "object"] "ValueError.__new__" = true
  kp : PySem.W.keepIn K (.ref C) = true
  b : PySem.W.subIn K (.ref C) (.type "BaseException") = some true
  t : PySem.W.typeIn K (.ref C) = some (.type "type")
section
variable {X : Cx} {T : Tbs} {W : WX} {R : List Str}
def mRaise (x : Str) : MS := fun xc _ r S => xc (x, none) r S
theorem mqs_raise {x m : Str} {C : Addr} {j : Nat} {p p2 pos pos' : Pos} (hc : X.calm = true) (nm : ClsAt X.K x C) (gC : X.mg x = some (.ref C)) (F : ExcF X.K C) (hg : Gl X x) (tk : Takes X W) (hdb : (x == ("__debug__" : Str)) = false := by decide) :
    PS X (.Raise (some (.Call (.Name x p) [.Constant (.str m) j p2] [] pos)) none pos') (LMS X.K T W (mRaise x)) :=
  imS (ps_raise hc tk (pmk_own PySem.F.excBase_ValueError F.x gC F.kp (raises_own F.b F.t) hg hdb)) fun E s H ⟨B, r, S, xc, De, g, h, hx, nx, bk, ct, rt⟩ => hx (.ref C) none (x, none) s r H B S (.refl g) ⟨⟨C, rfl, nm⟩, rfl⟩ h
/-- a caught exception stands in two names, then in one -/
def kept (i j : Nat) (r : DEnv) (e : Exc) : DEnv := Dl.st (Dl.st (Dl.st r i (some (.dat (.exc e.1 e.2)))) j (some (.dat (.exc e.1 e.2)))) i none
theorem owns_drop {s : L2.St} {r : DEnv} {i : Nat} {a : Addr} (h : Owns (s.set i none) (Dl.st r i none) a) : Owns s r a := by
  obtain ⟨j, c, h1, h2⟩ := h
  obtain ⟨h1, z⟩ := lk_st_none h1
  rw [List.getElem?_set_ne z] at h2
  exact ⟨j, c, h1, h2⟩
theorem caught {K : PySem.W.Frag} {B H : Hp} {S : Sto} {s : L2.St} {r : DEnv} {cls : Value} {d : Option Addr} {e : Exc} {a : Addr} {i j : Nat} (g : Good K T B H s r S) (er : ExcRep K B cls d e) (na : H a = none) :
    SMS K T B H S s r (upd B a (ExX cls d a)) (upd H a (ExX cls d a)) S (((s.set i (some (.ref a))).set j (some (.ref a))).set i none) (kept i j r e) := by
  have nB := g.kp.none na
  have kp : Kp B (upd B a (ExX cls d a)) := .new nB
  have off : ∀ {b : Addr} {u : HO}, H b = some u → b ≠ a := fun h => ne_of_none h na
  obtain ⟨⟨C, rfl, hC⟩, hp⟩ := er
  have z : Step B H (upd B a (ExX (.ref C) d a)) (upd H a (ExX (.ref C) d a)) := .new g.kp na
  have zm := z.m (K := K) (T := T) g.kp g.st
  have g1 := g.step zm
  have re : Rep K (upd B a (ExX (.ref C) d a)) (.ref a) (.exc e.1 e.2) := .exc hC upd_same (hp.mono kp)
  obtain ⟨e1, o1⟩ := setD (i := i) g1.en re
  obtain ⟨e2, o2⟩ := setD (i := j) e1 re
  have e3 := e2.drop i
  have ow : ∀ b, Owns (((s.set i (some (.ref a))).set j (some (.ref a))).set i none) (kept i j r e) b → Owns s r b := fun b o => o1 b (o2 b (owns_drop o))
  exact ⟨kp, fun b o h t n m w => let q := zm.out b o h t n m; ⟨q.1, q.2.1, q.2.2, fun o => w (ow b o)⟩, zm.ext, zm.has, fun b c h o => g.dj b c h (ow b o), g1.env e3 ow⟩
/-- try: .. except c as n: m = n -/
def mTryK (R : List Str) (c : Str) (i j : Nat) (tb : MS) : MS := fun xc E r S => tb (fun e r2 S2 => onO (isaT R e.1 c) fun b => ifB b (E.nx (kept i j r2 e) S2) (xc e r2 S2)) E r S
theorem mqs_tryK {x n m : Str} {c : Value} {i j : Nat} {body : List Stmt} {np pos pos' q1 q2 q3 : Pos} {tb : MS} (hk : ∀ y b, isaT R y x = some b → ∀ C, ClsAt X.K y C → PySem.W.exmOne X.K (.ref C) c = some b) (hst : X.stack = X.env :: X.outer) (hfr0 : X.env.frame = some X.env.locals) (hex : X.ex = []) (hN : X.N.Nodup)
    (hi : X.N[i]? = some n) (hj : X.N[j]? = some m) (hln : X.env.kindOf n = some .local) (hlm : X.env.kindOf m = some .local) (hc : Names X x c) (tk : Takes X W) (hd1 : (n == ("__debug__" : Str)) = false) (hd2 : (n == ("__classdict__" : Str)) = false)
    (hb : ∀ (W : WX) (pn : List (Addr × Obj)) (xe : Value → Shared → Prop), Takes (X.tr pn xe) W → PassesOwn (model X.prog X.w) X.A X.env xe → PSs (X.tr pn xe) body (LMS X.K T W tb))
    (hsw : ∀ (a : Addr) (pn : List (Addr × Obj)), swapsWith (.Name n q1) (some (.Name m q2)) q3.line (X.suite a pn).env = pure false := by intro _ _; rfl) :
    PS X (.Try body [.ExceptHandler (some (.Name x np)) (some n) [.Assign [.Name m q2] (.Name n q1) q3] pos'] [] [] pos) (LMS X.K T W (mTryK R x i j tb)) := by
  refine imS (ps_try_keep (c := c) (i := i) (j := j) (tb := fun W => LMS X.K T W tb) hst hfr0 hex hN hi hj hln hlm hc tk hd1 hd2 hb hsw) fun E s H ⟨B, r, S, xc, De, g, h, hx, nx, bk, ct, rt⟩ => ?_
  refine ⟨B, r, S, _, De, g, h, fun cls d e s' r' H' B' S' z er q => ?_, nx, bk, ct, rt⟩
  obtain ⟨b, hb1, q⟩ := onO_elim q
  obtain ⟨C, rfl, hC⟩ := id er.1
  refine ⟨b, hk _ _ hb1 C hC, fun hbt a na => ?_, fun hbf => ?_⟩
  · subst hbt
    unfold ifB at q
    rw [if_pos rfl] at q
    exact nx _ _ _ _ S' (z.trans g (caught z.gd er na)) q
  · subst hbf
    unfold ifB at q
    rw [if_neg Bool.false_ne_true] at q
    exact hx _ d e s' r' H' B' S' z er q
/-- try: .. except c: suite -/
def mTryO (R : List Str) (c : Str) (tb su : MS) : MS := fun xc E r S => tb (fun e r2 S2 => onO (isaT R e.1 c) fun b => ifB b (su XM0 E r2 S2) (xc e r2 S2)) E r S
theorem mqs_tryO {x : Str} {c : Value} {body suite : List Stmt} {b₀ : Stmt} {np pos pos' : Pos} {tb su : MS} (hk : ∀ y b, isaT R y x = some b → ∀ C, ClsAt X.K y C → PySem.W.exmOne X.K (.ref C) c = some b) (hst : X.stack = X.env :: X.outer) (hfr0 : X.env.frame = some X.env.locals) (hc : Names X x c) (tk : Takes X W)
    (hb : ∀ (W : WX) (pn : List (Addr × Obj)) (xe : Value → Shared → Prop), Takes (X.tr pn xe) W → PassesOwn (model X.prog X.w) X.A X.env xe → PSs (X.tr pn xe) body (LMS X.K T W tb))
    (hsu : ∀ (a : Addr) (oe : Obj) (cls : Value) (d : Option Addr) (pn : List (Addr × Obj)), Zc cls d oe → (∃ vs, oe.data = .fields vs) → PSs (X.suite a ((a, oe) :: pn)) (b₀ :: suite) (LMS X.K T W0 su)) :
    PS X (.Try body [.ExceptHandler (some (.Name x np)) none (b₀ :: suite) pos'] [] [] pos) (LMS X.K T W (mTryO R x tb su)) := by
  refine imS (ps_try_only (c := c) (tb := fun W => LMS X.K T W tb) (ts := fun _ _ _ => LMS X.K T W0 su) hst hfr0 hc tk hb hsu) fun E s H ⟨B, r, S, xc, De, g, h, hx, nx, bk, ct, rt⟩ => ?_
  refine ⟨B, r, S, _, De, g, h, fun cls d e s' r' H' B' S' z er q => ?_, nx, bk, ct, rt⟩
  obtain ⟨b, hb1, q⟩ := onO_elim q
  obtain ⟨C, rfl, hC⟩ := id er.1
  refine ⟨b, hk _ _ hb1 C hC, fun hbt a na => ?_, fun hbf => ?_⟩
  · subst hbt
    unfold ifB at q
    rw [if_pos rfl] at q
    exact ⟨B', r', S', XM0, De, z.gd, q, fun _ _ _ _ _ _ _ _ _ _ w => w.elim, fun s2 r2 H2 B2 S2 z2 => nx s2 r2 H2 B2 S2 (z.trans g z2), fun s2 r2 H2 B2 S2 z2 => bk s2 r2 H2 B2 S2 (z.trans g z2), fun s2 r2 H2 B2 S2 z2 => ct s2 r2 H2 B2 S2 (z.trans g z2), fun v x H2 B2 S2 z2 => rt v x H2 B2 S2 (z.trans g z2)⟩
  · subst hbf
    unfold ifB at q
    rw [if_neg Bool.false_ne_true] at q
    exact hx _ d e s' r' H' B' S' z er q
/-! ### isinstance of a kept exception -/
def rIsX (K : PySem.W.Frag) (cv : Value) : List V → Hp → VK → Prop := fun xs H Q => ∃ (a D : Addr) (c : V) (b : Bool), xs = [.ref a, c] ∧ H a = some (ExX (.ref D) none a) ∧ ExcC K D ∧ (∀ u, RelV c u → u = cv) ∧ PySem.W.kitOne K (.ref D) cv = some b ∧ Q (.bl b) H
theorem call_isX {cv : Value} : CallR X (.builtin "isinstance") (rIsX X.K cv) := by
  intro pins s σ H xs us Q I r h
  obtain ⟨a, D, c, b, rfl, ha, C, hcv, e, q⟩ := h
  cases r with
  | cons rx rr =>
    cases rr with
    | cons rt rr =>
      cases rr
      cases rx
      have ec := hcv _ rt
      subst ec
      obtain ⟨⟨oe, vs, hget, hz, hv⟩, _⟩ := I.hok a _ ha
      have J : PySem.W.InstAt s.heap a oe D none := by
        obtain ⟨oc, od, oda, osl⟩ := oe
        obtain ⟨h1, h2⟩ := hz
        dsimp only at h1 h2 hv
        subst h1 h2 hv
        exact ⟨hget, rfl, rfl, trivial⟩
      exact PySem.W.kia_one (PySem.W.handS_kitx_exc C.hg C.hk C.hs C.hd C.ha C.hn C.ht C.hm) I.kIn J e (fun z => nomatch z) fun tk => ⟨.bl b, H, I.kept (t' := tk) fun _ _ z => z, rfl, q⟩
/-- is it an error of the class x -/
def fIsXD (R : List Str) (x : Str) (P : Val → Prop) : D → Prop
  | .exc y none => onO (isaT R y x) fun b => P (.dat (.bl b))
  | _ => False
def fIsX (R : List Str) (x : Str) : F1 := fun v P => fIsXD R x P v.d
def mIsX (R : List Str) (x : Str) (da : ME) : ME := fun xc r S P => da xc r S fun v S1 => fIsX R x v fun z => P z S1
theorem mq_isX {a e2 : Expr} {p pos : Pos} {x : Str} {cv : Value} {c : V} {da : ME} {fa : Bool} (hk : ∀ y b, isaT R y x = some b → ∀ C, ClsAt X.K y C → ExcC X.K C ∧ PySem.W.kitOne X.K (.ref C) cv = some b) (hcv : ∀ u, RelV c u → u = cv) (hg : Gl X "isinstance") (hm : X.mg "isinstance" = none)
    (h2 : PE X e2 (fun _ H Q => Q c H)) (ha : PE X a (LM X.K T W fa da))
    (he : starEach [a, e2] X.env = (false, eval a X.env) :: starEach [e2] X.env := by rfl) (he2 : starEach [e2] X.env = (false, eval e2 X.env) :: starEach [] X.env := by rfl) (hpl : (backTo pos (starEach [e2] X.env)).any (·.1) = false := by rfl) :
    PE X (.Call (.Name "isinstance" p) [a, e2] [] pos) (LM X.K T W true (mIsX R x da)) := by
  refine imE (pe_callB (call_isX (cv := cv)) hg hm (by decide +kernel) (pa_cons ha (pa_cons h2 pa_nil he2) he) (by decide) (by decide) he hpl) fun s H Q ⟨B, r, S, xc, P, g, h, hx, hq⟩ => ⟨B, r, S, xc, _, g, h, hx, fun x vx H1 B1 S1 z1 rx _ q => ?_⟩
  unfold fIsX fIsXD at q
  split at q
  · rename_i y e
    obtain ⟨b, hb, q⟩ := onO_elim q
    cases vx with
    | tmp c => cases c <;> cases e
    | dat d =>
      cases (show d = .exc y none from e)
      cases rx.1 with
      | exc hc hb1 hp =>
        cases hp
        obtain ⟨k1, k2⟩ := hk _ _ hb _ hc
        exact ⟨_, _, c, b, rfl, (z1.sub _ _ hb1).1 DrawO.ext, k1, hcv, k2, hq _ (.dat (.bl b)) H1 B1 S1 z1 (.dat (.bl b)) (fun _ => Fr.dat) q⟩
  · exact q.elim
end
end Ml
/-! Ml6: a lambda without parameters, handed to a def that calls it. -/
namespace Ml
open PySem PySem.Spec PyProof.Rows L2 Dl LamX
section
variable {X : Cx} {pins : List (Addr × Obj)} {σ : L2.St} {H : Hp} {s : Shared}
/-- the heap behind a lambda's making -/
def Made (H H1 : Hp) (P c : Addr) (q : Str) : Prop := H1 = H ∨ ∃ ps qs, H P = some (.tbl ps) ∧ H c = none ∧ H1 = upd (upd H P (.tbl qs)) c (CodeO c q)
theorem lam_make3 {T : Tbs} {c P : Addr} {params : Arguments} {body : Expr} {scope : Scope} {pos : Pos} {E : Value → Shared → Prop} {Q : Value → Shared → Prop} (I : Inv X pins σ H s) (TB : TabB X.base X.mg c P) (hcode : X.env.code = .ref c)
    (hm : (P, X.env.qual ++ "<lambda>") ∈ T) (hu : ∀ p ∈ T, p.1 = P → p.2 = X.env.qual ++ "<lambda>") (hT : Tabs T H) (hdef : defaultsOf params X.env = ([], [])) (hfree : ∀ y ∈ scope.names, y.2 = .free → ∃ c, X.env.cells.lookup y.1 = some c)
    (h : ∀ (f c1 : Addr) (pm ctv : Value) (H1 : Hp) (s1 : Shared), Inv X pins σ H1 s1 → Made H H1 P c1 (X.env.qual ++ "<lambda>") → Tabs T H1 → s1.heap.get? f = some (PySem.W.kla_obj "<lambda>" (X.env.qual ++ "<lambda>") params body scope (cloFrom X.env.cells scope.names []) pm c1 ctv) →
      H1 f = none → f ∉ frs X.stack → H1 c1 = some (CodeO c1 (X.env.qual ++ "<lambda>")) → Q (.ref f) s1) :
    wpAny (model X.prog X.w) X.A (eval (.Lambda params body scope pos) X.env) Q E s := by
  obtain ⟨ps, tP, tOk, tAll⟩ := hT _ hm
  refine PySem.W.kla_eval hdef ?_
  have bAt : s.heap.BuiltinsAt X.mg P := TB.bm.keeps I.bk
  have hasP : s.heap.get? P = some { cls := .none, data := .fields ps } := I.hok P _ tP
  have notF : ∀ f, s.heap.objs.size ≤ f → f ∉ frs X.stack := fun f hf z => by
    rcases List.mem_cons.mp (I.stkSub _ z) with e | e
    · have l1 := I.lt
      rw [← e] at l1
      exact Nat.lt_irrefl _ (Nat.lt_of_lt_of_le l1 hf)
    · exact I.nofs hf e
  cases hc : codeAmong pos ps.toList with
  | some cv =>
    obtain ⟨c1, rfl, isC⟩ := tAll pos cv hc
    refine PySem.W.kla_makeFunctionHit (mg := X.mg) (c := c) (P := P) (ps := ps) (closure_ok hfree) I.ok.glob (I.mod.glob.keeps I.bk) hcode (TB.code.keeps I.bk) hasP tOk hc bAt fun ctv h1 tk hx hsz => ?_
    have I1 : Inv X pins σ H { s with heap := h1.push (PySem.W.kla_obj "<lambda>" (X.env.qual ++ "<lambda>") params body scope (cloFrom X.env.cells scope.names []) ((X.mg "__name__").getD .none) c1 ctv), toks := tk } :=
      I.kept fun b o e => Heap.get?_push_of_some _ (hx b o e)
    exact h h1.objs.size c1 _ ctv H _ I1 (.inl rfl) hT (Heap.get?_push_size _ rfl) (I.hok.fresh hsz) (notF _ hsz) isC
  | none =>
    refine PySem.W.kla_makeFunction (mg := X.mg) (c := c) (P := P) (ps := ps) (closure_ok hfree) I.ok.glob (I.mod.glob.keeps I.bk) hcode (TB.code.keeps I.bk) hasP tOk hc TB.gP bAt fun c1 ctv h1 tk hx hge hlt hrec htb => ?_
    obtain ⟨c2, oc, vs, t, e2, hoc, hd, hv⟩ := hrec
    cases e2
    have big : s.heap.objs.size ≤ h1.objs.size := Nat.le_trans hge (Nat.le_of_lt hlt)
    have nC : H c1 = none := I.hok.fresh hge
    have I1 := inv_table (t' := tk) (more := #[rawInt pos.line, rawInt pos.col, .ref c1]) (h' := h1.push (PySem.W.kla_obj "<lambda>" (X.env.qual ++ "<lambda>") params body scope (cloFrom X.env.cells scope.names []) ((X.mg "__name__").getD .none) c1 ctv)) I tP
      (fun b o hb e => Heap.get?_push_of_some _ (hx b o hb e)) (Heap.get?_push_of_some _ htb) hge ⟨oc, vs, t, Heap.get?_push_of_some _ hoc, hd, hv⟩
    have stays : ∀ b o, H b = some o → (∀ qs, o ≠ .tbl qs) → upd (upd H P (.tbl (ps ++ #[rawInt pos.line, rawInt pos.col, .ref c1]))) c1 (CodeO c1 (X.env.qual ++ "<lambda>")) b = some o := fun b o e n => by
      rw [upd_ne (ne_of_none e nC), upd_ne (fun z => n ps (Option.some.inj (e.symm.trans (by rw [z]; exact tP))))]
      exact e
    have lst : (ps ++ #[rawInt pos.line, rawInt pos.col, .ref c1]).toList = ps.toList ++ [rawInt pos.line, rawInt pos.col, .ref c1] := by simp
    refine h h1.objs.size c1 _ ctv _ _ I1 (.inr ⟨ps, _, tP, nC, rfl⟩) (fun p hp => ?_) (Heap.get?_push_size _ rfl) ?_ (notF _ big) upd_same
    · by_cases hb : p.1 = P
      · rw [hu p hp hb, hb]
        refine ⟨_, by rw [upd_ne (ne_of_none tP nC), upd_same], by rw [lst]; exact PySem.TriplesOk_snoc _ _ _ _ tOk, fun p1 cv hcv => ?_⟩
        rw [lst] at hcv
        rcases among_app _ tOk hcv with z | z
        · obtain ⟨c0, e1, e2⟩ := tAll p1 cv z
          exact ⟨c0, e1, stays _ _ e2 codeO_ne⟩
        · exact ⟨c1, z, upd_same⟩
      · obtain ⟨qs, a1, a2, a3⟩ := hT p hp
        refine ⟨qs, by rw [upd_ne (ne_of_none a1 nC), upd_ne hb]; exact a1, a2, fun p1 cv hcv => ?_⟩
        obtain ⟨c0, e1, e2⟩ := a3 p1 cv hcv
        exact ⟨c0, e1, stays _ _ e2 codeO_ne⟩
    · have n1 : h1.objs.size ≠ c1 := Nat.ne_of_gt hlt
      have n2 : h1.objs.size ≠ P := Nat.ne_of_gt (Nat.lt_of_lt_of_le (Heap.lt_size hasP) big)
      rw [upd_ne n1, upd_ne n2]
      exact I.hok.fresh big
/-- x(), in the def that got the lambda; Z is that def's context, entered at s -/
theorem pe_act3 {CXg : CXT} {Eg : XK} {Ng : List Str} {qg : Str} {sg : Scope} {g f c1 : Addr} {cdg pm ctv : Value} {params : Arguments} {body : Expr} {scope : Scope} {k i : Nat} {a : Str} {pn : List (Addr × Obj)} {xe : Value → Shared → Prop} {W : WX} {tb : XK → TE} {p1 p2 : Pos}
    (I : Inv X pins σ H s) (Ls : LamS X.env.scope scope) (hf : s.heap.get? f = some (PySem.W.kla_obj "<lambda>" (X.env.qual ++ "<lambda>") params body scope (cloFrom X.env.cells scope.names []) pm c1 ctv)) (hfn : H f = none) (hfr : f ∉ frs X.stack)
    (hbind : bindArgs (PySem.W.kla_fn "<lambda>" (X.env.qual ++ "<lambda>") params body scope (cloFrom X.env.cells scope.names []) pm (.ref c1) ctv) ⟨[], []⟩ = pure [])
    (tk : Takes ((cxOf CXg X.prog X.w X.K X.mg X.base Ng qg sg g cdg X.A X.stack s H Eg).tr pn xe) W) (hr : Room (k + 1) (X.A.deeper (envOfC qg sg s.heap.objs.size g cdg)))
    (hbody : ∀ (A : Around) (outer : List Env) (s : Shared) (H : Hp) (E : XK), Room k (A.deeper (lamEnv X scope s.heap.objs.size f c1)) → PE (lamCx X A outer s H E scope f c1) body (tb E))
    (hN : Ng[i]? = some a) (hv : Vis sg a) (hd : (a == ("__debug__" : Str)) = false) (hcd : (a == ("__classdict__" : Str)) = false) :
    PE ((cxOf CXg X.prog X.w X.K X.mg X.base Ng qg sg g cdg X.A X.stack s H Eg).tr pn xe) (.Call (.Name a p1) [] [] p2)
      (fun τ G Q => τ[i]? = some (some (.ref f)) ∧ G c1 = some (CodeO c1 (X.env.qual ++ "<lambda>")) ∧ tb (fun cls d G1 => W cls d τ G1) σ G Q) := by
  refine ⟨fun pins2 s2 τ G Q J asked => ?_⟩
  obtain ⟨at0, isC, rd⟩ := asked
  refine wpAny_Call_Name_kw (thn ((pe_var (pos := p1) (i := i) hN hv hd hcd).run pins2 s2 τ G (fun v G1 => v = .ref f ∧ G1 = G) J ⟨.ref f, at0, rfl, rfl⟩) fun u s3 ⟨v, G1, J1, r1, q1⟩ => ?_)
  obtain ⟨rfl, rfl⟩ := q1
  obtain rfl : u = Value.ref f := r1
  have still : s3.heap.get? f = some (PySem.W.kla_obj "<lambda>" (X.env.qual ++ "<lambda>") params body scope (cloFrom X.env.cells scope.names []) pm c1 ctv) :=
    J1.base.keep f _ hf hfn hfr (fun z => nomatch (show f ∈ ([] : List Addr) from z))
  refine PySem.W.callWith_F0 ⟨_, _, _, _, still⟩ ?_
  have since : Un (frs X.stack) [] H G1 s.heap s3.heap := J1.base
  obtain ⟨⟨oc, vs, t, hoc, hdc, hvc⟩, _, _⟩ := J1.hok c1 _ isC
  have called : codeAny (model X.prog X.w) (X.A.deeper (envOfC qg sg s.heap.objs.size g cdg)) (.call (.ref f) ⟨[], []⟩) (CR (L2.CX X.prog X.w) (envOfC qg sg s.heap.objs.size g cdg :: X.stack) X.prog X.w G1 s3 Q (fun cls d G2 => W cls d τ G2)) s3 := by
    refine PySem.W.kla_callFunE hr.depth still rfl Ls.co Ls.gen rfl ⟨c1, oc, vs, t, rfl, hoc, hdc, hvc⟩ ?_
    rw [hbind]
    refine wpAny_pure (wpAny_newFunctionEnv (fun y hy => (Ls.own y hy).2) (fun y hy => absurd hy (by simp)) (fun h₁ hns hsb => ⟨J1.nolimit.fresh _ hsb, ?_⟩) Ls.kind)
    show codeAny _ _ (.expr body (lamEnv X scope s3.heap.objs.size f c1)) _ _
    have kp : ∀ b o, s3.heap.get? b = some o → h₁.get? b = some o := fun b o e => hsb.extBut b o (Nat.ne_of_lt (Heap.lt_size e)) (Heap.get?_push_of_some _ e)
    have entered : Inv (lamCx X (X.A.deeper (envOfC qg sg s.heap.objs.size g cdg)) (envOfC qg sg s.heap.objs.size g cdg :: X.stack) s3 G1 (fun cls d G2 => W cls d τ G2) scope f c1) [] σ G1 { s3 with heap := h₁, toks := s3.toks + ([] : List (Str × Value)).length } :=
      lam_start2 I Ls J1.env0 hr.hd since hns kp
    refine PySem.W.kla_codeExpr (wpAny_mono ((hbody _ _ s3 G1 (fun cls d G2 => W cls d τ G2) (hr.deeper _)).run [] _ _ G1 Q entered rd) (fun v s4 hq => ?_) fun e s4 hq => hq)
    obtain ⟨w4, G4, J4, rv4, q4⟩ := hq
    exact ⟨w4, G4, J4.os, J4.bare, J4.base, J4.hok, rv4, q4⟩
  refine wpAny_call (codeAny_mono called fun r s4 hq => ?_)
  cases r with
  | error e => exact tk e s4 (XE.of_call J1 (fun _ _ _ w => w) hq)
  | ok fl =>
    cases fl with
    | ret u => exact J1.after hq
    | next => exact False.elim hq
    | brk => exact False.elim hq
    | cont => exact False.elim hq
end
/-- a lambda's reading: the wish of exceptions, the store, what follows -/
abbrev MLam := (Exc → Sto → Prop) → Sto → (Val → Sto → Prop) → Prop
/-- a promise of a def that gets a lambda -/
abbrev MH := MLam → Sto → (Val → Sto → Prop) → Prop
/-- what the lambda's body does in the maker's names is told by lam, whatever has happened meanwhile -/
def LamOk (K : PySem.W.Frag) (T : Tbs) (tl : XK → Hp → VK → Prop) (lam : MLam) (B0 : Hp) : Prop := ∀ (E : XK) (B H : Hp) (S : Sto) (xc : Exc → Sto → Prop) (P : Val → Sto → Prop) (Q : VK), Kp B0 B → Kp B H → StRep K B H S → Tabs T H → (∀ p ∈ T, B p.1 = none) → lam xc S P →
  (∀ cls d e H' B' S', SM K T B H S B' H' S' → ExcRep K B' cls d e → xc e S' → E cls d H') → (∀ v x H' B' S', SM K T B H S B' H' S' → RepM K T B' H' S' v x → Fr H v x → P x S' → Q v H') → tl E H Q
/-- the def at g keeps its promise about lambdas that are made in X -/
def GivesM (X : Cx) (T : Tbs) (k : Nat) (Ng : List Str) (x : Str) (sg : Scope) (g : Addr) (cdg : Value) (bg : List Stmt) (a : Str) (q : Str) (spH : MH) : Prop := ∀ (f c1 : Addr) (s : Shared) (H : Hp) (Q : VK) (tl : XK → Hp → VK → Prop) (lam : MLam) (B : Hp) (S : Sto) (P : Val → Sto → Prop), Room k (X.A.deeper (envOfC x sg s.heap.objs.size g cdg)) →
  (∀ (W : WX) (pn : List (Addr × Obj)) (xe : Value → Shared → Prop) (p1 p2 : Pos), Takes ((cxOf C8.CX0 X.prog X.w X.K X.mg X.base Ng x sg g cdg X.A X.stack s H C8.E0).tr pn xe) W →
    PE ((cxOf C8.CX0 X.prog X.w X.K X.mg X.base Ng x sg g cdg X.A X.stack s H C8.E0).tr pn xe) (.Call (.Name a p1) [] [] p2) (fun τ G Q => τ[0]? = some (some (.ref f)) ∧ G c1 = some (CodeO c1 q) ∧ tl (fun cls d G1 => W cls d τ G1) G Q)) →
  B c1 = some (CodeO c1 q) → Kp B H → StRep X.K B H S → Tabs T H → (∀ p ∈ T, B p.1 = none) → LamOk X.K T tl lam B → spH lam S P → (∀ v x H' B' S', SM X.K T B H S B' H' S' → RepM X.K T B' H' S' v x → Fr H v x → P x S' → Q v H') →
  ∃ t, PSs (cxOf C8.CX0 X.prog X.w X.K X.mg X.base Ng x sg g cdg X.A X.stack s H C8.E0).nox bg t ∧ t { nx := fun _ H' => Q .non H', rt := Q } (L2.start Ng [.ref f]) H
/-- x(), x the name at slot 0 that holds the lambda -/
def mAct (f : Addr) (B0 : Hp) (lam : MLam) : ME := fun xc r S P => lk r 0 = some (.dat (.clo f B0)) ∧ lam (fun e S2 => xc e r S2) S P
theorem mq_act {Z : Cx} {T : Tbs} {W : WX} {f c1 : Addr} {q : Str} {B0 : Hp} {tl : XK → Hp → VK → Prop} {lam : MLam} {e : Expr} (act : PE Z e (fun τ G Q => τ[0]? = some (some (.ref f)) ∧ G c1 = some (CodeO c1 q) ∧ tl (fun cls d G1 => W cls d τ G1) G Q)) (hc : B0 c1 = some (CodeO c1 q)) (ok : LamOk Z.K T tl lam B0) :
    PE Z e (LM Z.K T W true (mAct f B0 lam)) := by
  refine imE act fun s H Q ⟨B, r, S, xc, P, g, h, hx, hq⟩ => ?_
  obtain ⟨h0, h⟩ := h
  obtain ⟨v, e0, rv⟩ := g.at_ h0
  cases rv.1 with
  | clo kb =>
    have kh := (g.kp _ _ ((kb _ _ hc).1 (by unfold CodeO; exact DrawO.ext))).1 (by unfold CodeO; exact DrawO.ext)
    exact ⟨e0, kh, ok _ B H S _ P Q kb g.kp g.st g.tb g.tn h (fun cls d e H' B' S' z er q => hx cls d e H' B' S' z er q) (fun v x H' B' S' z rv fr p => hq v x H' B' S' z rv (fun _ => fr) p)⟩
/-- the names without the containers that they own -/
def bare (r : DEnv) : DEnv := r.map fun x => match x with
  | some (.dat d) => some (.dat d)
  | _ => none
theorem lk_bare {i : Nat} {x : Val} : ∀ {r : DEnv}, lk (bare r) i = some x → lk r i = some x ∧ ∃ d, x = .dat d
  | [], h => nomatch h
  | y :: r, h => by
    cases i with
    | zero =>
      cases y with
      | none => cases h
      | some z =>
        cases z with
        | dat d => cases h; exact ⟨rfl, d, rfl⟩
        | tmp c => cases h
    | succ i => exact lk_bare (r := r) (i := i) h
theorem bare_length (r : DEnv) : (bare r).length = r.length := List.length_map _
/-- told(lambda: e) -/
def mLam (spH : MH) (de : ME) : ME := fun xc r S P => spH (fun xcE S1 P1 => de (fun e _ S2 => xcE e S2) (bare r) S1 P1) S P
section
variable {X : Cx} {T : Tbs} {W : WX}
theorem made_kp {B H H1 : Hp} {P c : Addr} {q : Str} (m : Made H H1 P c q) (k : Kp B H) : Kp B H1 := by
  rcases m with e | ⟨ps, qs, hP, hc, e⟩
  · rw [e]; exact k
  · subst e
    intro a o ha
    have ne : a ≠ c := fun z => by rw [z] at ha; obtain ⟨u, hu⟩ := k.some ha; rw [hc] at hu; cases hu
    rw [upd_ne ne]
    by_cases z : a = P
    · subst z
      rw [upd_same]
      refine ⟨fun n => ?_, fun d => ?_⟩
      · have h1 := (k a o ha).1 n
        rw [hP] at h1
        cases h1
        exact absurd (.inr ⟨_, rfl⟩) n
      · obtain ⟨u, hu, m⟩ := (k a o ha).2 d
        rw [hP] at hu
        cases hu
        refine ⟨_, rfl, ?_⟩
        rcases m with ⟨_, _, _, _, e, _⟩ | ⟨m, _⟩
        · cases e
        · exact .inr ⟨m, _, rfl⟩
    · rw [upd_ne z]
      exact k a o ha
theorem made_keep {H H1 : Hp} {P c : Addr} {q : Str} (m : Made H H1 P c q) {a : Addr} {o : HO} (h : H a = some o) (n : a ≠ P) : H1 a = some o := by
  rcases m with e | ⟨ps, qs, hP, hc, e⟩
  · rw [e]; exact h
  · rw [e, upd_ne (ne_of_none h hc), upd_ne n]
    exact h
theorem made_has {H H1 : Hp} {P c : Addr} {q : Str} (m : Made H H1 P c q) {a : Addr} {o : HO} (h : H a = some o) : ∃ u, H1 a = some u := by
  by_cases z : a = P
  · subst z
    rcases m with e | ⟨ps, qs, hP, hc, e⟩
    · rw [e]; exact ⟨o, h⟩
    · rw [e, upd_ne (ne_of_none h hc), upd_same]
      exact ⟨_, rfl⟩
  · exact ⟨o, made_keep m h z⟩
theorem mq_lam {x a : Str} {g c P : Addr} {k : Nat} {pg : Arguments} {bg : List Stmt} {sg : Scope} {dV kV doc pm cdv ct oc : Value} {an od : Option Addr} {osl : Array (Option Value)} {Ng : List Str} {params : Arguments} {body : Expr} {scope : Scope} {spH : MH} {de : ME} {p lpos pos : Pos}
    (hg : Gl X x) (hm : X.mg x = some (.ref g)) (hk : PySem.W.keepIn X.K (.ref g) = true) (lk0 : X.K.lookup g = some ⟨oc, od, .func (PySem.W.fnOf x x pg bg sg dV kV doc pm an cdv ct), osl⟩) (hcg : PySem.W.codeIn X.K cdv x = true) (hb : L2.Binds X.K (PySem.W.fnOf x x pg bg sg dV kV doc pm an cdv ct) [a] []) (Sg : FnScope Ng [a] sg) (hNg : Ng[0]? = some a) (hva : Vis sg a)
    (hG : GivesM X T (k + 1) Ng x sg g cdv bg a (X.env.qual ++ "<lambda>") spH) (TB : TabB X.base X.mg c P) (hcode : X.env.code = .ref c) (hmT : (P, X.env.qual ++ "<lambda>") ∈ T) (hu : ∀ p ∈ T, p.1 = P → p.2 = X.env.qual ++ "<lambda>") (hr : Room (k + 2) X.A) (Ls : LamS X.env.scope scope) (hdef : defaultsOf params X.env = ([], []))
    (hbind : ∀ (q : Str) (cl : List (Str × Addr)) (pm cv ctv : Value), bindArgs (PySem.W.kla_fn "<lambda>" q params body scope cl pm cv ctv) ⟨[], []⟩ = pure [])
    (hbody : ∀ (A : Around) (outer : List Env) (s : Shared) (H : Hp) (E : XK) (f c1 : Addr), Room k (A.deeper (lamEnv X scope s.heap.objs.size f c1)) → PE (lamCx X A outer s H E scope f c1) body (LM X.K T (fun cls d _ H => E cls d H) true de))
    (hdb : (x == ("__debug__" : Str)) = false := by decide) (hd : (a == ("__debug__" : Str)) = false := by decide) (hcd : (a == ("__classdict__" : Str)) = false := by decide) :
    PE X (.Call (.Name x p) [.Lambda params body scope lpos] [] pos) (LM X.K T W true (mLam spH de)) := by
  refine ⟨fun pins s σ H Q I ⟨B, r, S, xc, P0, gd, h, hx, hq⟩ => ?_⟩
  refine wpAny_Call_Name_kw (ld_glob I hg hm ?_ hdb)
  refine PySem.W.callWith_K (h₀ := X.base) I.ok.mod.kin hk ?_ (by rfl) (by rfl)
  show wpAny _ _ (spliced ((false, eval (.Lambda params body scope lpos) X.env) :: backTo pos (starEach [] X.env))) _ _ s
  refine Calls.spliced_cons (lam_make3 I TB hcode hmT hu gd.tb hdef (Ls.has I.ok) fun f c1 pm1 ctv H1 s1 I1 made T1 hf hfn hfr hco => ?_)
  refine Calls.spliced_nil ⟨I1.kIn, ?_⟩
  have kB : Kp B H1 := made_kp made gd.kp
  have tP : ∀ b o, H b = some o → ¬ Tat T b → H1 b = some o := fun b o e n => made_keep made e fun z => n ⟨X.env.qual ++ "<lambda>", by rw [z]; exact hmT⟩
  -- the code object is shared from now on
  have nCs : S c1 = none := by
    cases e : S c1 with
    | none => rfl
    | some c2 =>
      obtain ⟨_, q⟩ := gd.st c1 _ e
      obtain ⟨o, ho, n1, n2⟩ := q.has
      have h1 := tP _ _ ho (nta gd.tb ho n1)
      rw [hco] at h1
      cases h1
      exact (n2 _ rfl).elim
  have nCt : ¬ Tat T c1 := nta T1 hco (fun ps => codeO_ne ps)
  have kB2 : Kp (upd B c1 (CodeO c1 (X.env.qual ++ "<lambda>"))) H1 := fun b o e => by
    by_cases z : b = c1
    · subst z
      rw [upd_same] at e
      cases e
      exact ⟨fun _ => hco, fun d => absurd d (by unfold CodeO; exact DrawO.ext)⟩
    · rw [upd_ne z] at e
      exact kB b o e
  have kBB : Kp B (upd B c1 (CodeO c1 (X.env.qual ++ "<lambda>"))) := fun b o e => by
    by_cases z : b = c1
    · subst z
      rw [upd_same]
      have h1 : o = CodeO b (X.env.qual ++ "<lambda>") := by
        by_cases d : DrawO o
        · obtain ⟨u, hu, m⟩ := (kB b o e).2 d
          rw [hco] at hu
          cases hu
          unfold CodeO at m
          exact (mv_ext m).elim
        · have h2 := (kB b o e).1 d
          rw [hco] at h2
          exact (Option.some.inj h2).symm
      rw [h1]
      exact ⟨fun _ => rfl, fun d => absurd d (by unfold CodeO; exact DrawO.ext)⟩
    · rw [upd_ne z]
      exact Kp.refl B b o e
  have st2 : StRep X.K (upd B c1 (CodeO c1 (X.env.qual ++ "<lambda>"))) H1 S := fun b c2 e => by
    obtain ⟨n, q⟩ := gd.st b c2 e
    have ne : b ≠ c1 := fun z => by rw [z, nCs] at e; cases e
    obtain ⟨o, ho, n1, _⟩ := q.has
    exact ⟨by rw [upd_ne ne]; exact n, q.move kBB fun u hu => tP _ _ hu (nta gd.tb ho n1)⟩
  have tn2 : ∀ p ∈ T, upd B c1 (CodeO c1 (X.env.qual ++ "<lambda>")) p.1 = none := fun p hp => by
    rw [upd_ne (fun z => nCt ⟨p.2, by rw [← z]; exact hp⟩)]
    exact gd.tn p hp
  have zz : SM X.K T B H S (upd B c1 (CodeO c1 (X.env.qual ++ "<lambda>"))) H1 S → _ := fun zm v x H' B' S' z2 rv fr p => hq v x H' B' S' (zm.trans z2) rv (fun _ => zm.fr fr) p
  have called : codeAny (model X.prog X.w) X.A (.call (.ref g) ⟨[.ref f], []⟩) (CR C8.CX0 X.stack X.prog X.w H1 s1 Q C8.E0) s1 := by
    refine run_ofS (N := Ng) (ps := [a]) (us := [.ref f]) (vs := [.ref f]) lk0 hcg Sg hr I1.env0 (hb s1 [.ref f] I1.kIn rfl) (.cons rfl .nil) rfl fun hr1 => ?_
    obtain ⟨t1, ht1, hq1⟩ := hG f c1 s1 H1 Q (fun E G Q1 => LM X.K T (fun cls d _ G1 => E cls d G1) true de σ G Q1) (fun xcE S1 P1 => de (fun e _ S2 => xcE e S2) (bare r) S1 P1) (upd B c1 (CodeO c1 (X.env.qual ++ "<lambda>"))) S P0 hr1
      (fun W pn xe p1 p2 tk => pe_act3 (i := 0) (tb := fun E => LM X.K T (fun cls d _ G1 => E cls d G1) true de) I1 Ls hf hfn hfr (hbind _ _ _ _ _) tk hr1 (fun A outer s H E hr2 => hbody A outer s H E f c1 hr2) hNg hva hd hcd)
      upd_same kB2 st2 T1 tn2 (fun E B1 G S1 xc1 P1 Q1 k0 k1 sr1 tb1 tn1 h1 hx1 hq1 => ⟨B1, bare r, S1, _, P1, ⟨k1, ⟨by rw [bare_length]; exact gd.en.len, fun i x hi => (by obtain ⟨h2, d, rfl⟩ := lk_bare hi; obtain ⟨v, e, rv⟩ := gd.en.at_ i _ h2; exact ⟨v, e, Rep.mono (kBB.trans k0) rv⟩), fun i j c c' a h1 => by obtain ⟨_, d, e⟩ := lk_bare h1; cases e⟩, sr1, fun a c h ow => (by obtain ⟨i, c2, h1, _⟩ := ow; obtain ⟨_, d, e⟩ := lk_bare h1; cases e), tb1, tn1⟩, h1,
          fun cls d e H' B' S' z er q => hx1 cls d e H' B' S' z er q, fun v x H' B' S' z rv fr p => hq1 v x H' B' S' z rv (fr rfl) p⟩)
      h (zz ⟨kBB, kB2, fun b o e t n m => ⟨tP b o e t.1, by rw [upd_ne (fun z => by rw [z] at e; exact t.2 _ (Option.some.inj ((tP _ _ e (by rw [← z]; exact t.1)).symm.trans hco)))]; exact n, m⟩, fun b φ e => tP b _ e (nta gd.tb e fun _ z => nomatch z), fun _ _ => T1, fun _ _ => tn2, fun b o e => (made_has made e), st2⟩)
    exact ⟨t1, ht1.nox, hq1⟩
  refine wpAny_call (codeAny_mono called fun r s2 hq2 => ?_)
  cases r with
  | error e => exact (show False from hq2).elim
  | ok fl =>
    cases fl with
    | ret u => exact I1.after hq2
    | next => exact False.elim hq2
    | brk => exact False.elim hq2
    | cont => exact False.elim hq2
end
end Ml
/-! Ml7: the classes of errors, by their names. -/
namespace Ml
open PySem PySem.Spec PyProof.Rows L2 Dl LamX
structure ClsF (K : PySem.W.Frag) (C : Addr) : Prop where
  b : PySem.W.subIn K (.ref C) (.type "BaseException") = some true
  i : PySem.W.isClsIn K C = true
  t : PySem.W.typeIn K (.ref C) = some (.type "type")
/-- R: what may be raised; N: what is named -/
structure Excs (K : PySem.W.Frag) (mg : Str → Option Value) (R N : List Str) : Prop where
  at_ : ∀ x ∈ N, ∃ C, mg x = some (.ref C) ∧ ClsAt K x C ∧ ClsF K C
  rai : ∀ x ∈ R, ∀ C, ClsAt K x C → ExcF K C ∧ ExcC K C
  sub : ∀ x ∈ R, ∀ c ∈ N, ∀ C D, ClsAt K x C → ClsAt K c D → PySem.W.subIn K (.ref C) (.ref D) = some (decide (c = x) || decide (c = "GapError"))
  val : ∀ x ∈ R, ∀ C, ClsAt K x C → PySem.W.subIn K (.ref C) (.type "ValueError") = some true
  rn : ∀ x ∈ R, x ∈ N
theorem cls_eq {K : PySem.W.Frag} {x : Str} {C D : Addr} (a : Dl.ClsAt K x C) (b : Dl.ClsAt K x D) : C = D := by
  unfold Dl.ClsAt at a b
  rw [a] at b
  cases b
  rfl
section
variable {K : PySem.W.Frag} {mg : Str → Option Value} {R N : List Str} {y c : Str} {b : Bool} {C D : Addr}
theorem isaT_in (h : isaT R y c = some b) : y ∈ R ∧ b = (decide (c = y) || decide (c = "GapError") || decide (c = "ValueError")) := by
  unfold isaT at h
  split at h
  · rename_i hy
    exact ⟨hy, (Option.some.inj h).symm⟩
  · cases h
theorem Excs.sub' (E : Excs K mg R N) (hc : c ∈ N) (hv : c ≠ "ValueError") (h : isaT R y c = some b) (hC : ClsAt K y C) (hD : ClsAt K c D) : PySem.W.subIn K (.ref C) (.ref D) = some b := by
  obtain ⟨hy, e⟩ := isaT_in h
  have q := E.sub y hy c hc C D hC hD
  rw [e, decide_eq_false hv, Bool.or_false]
  exact q
theorem kitCls_of (F : ClsF K D) (s : PySem.W.subIn K (.ref C) (.ref D) = some b) : PySem.W.kitCls K (.ref C) (.ref D) = some b := by
  have e : ((PySem.W.clsIn K D).isSome && PySem.W.typeIn K (.ref D) == some (.type "type")) = true := by
    rw [show (PySem.W.clsIn K D).isSome = true from F.i, F.t]
    rfl
  show (if ((PySem.W.clsIn K D).isSome && PySem.W.typeIn K (.ref D) == some (.type "type")) = true then PySem.W.subIn K (.ref C) (.ref D) else none) = _
  rw [if_pos e]
  exact s
theorem exm_of' (F : ClsF K D) (s : PySem.W.subIn K (.ref C) (.ref D) = some b) : PySem.W.exmOne K (.ref C) (.ref D) = some b := by
  unfold PySem.W.exmOne
  rw [if_pos (by rw [F.b]; rfl)]
  exact kitCls_of F s
theorem Excs.exm (E : Excs K mg R N) (hc : c ∈ N) (hv : c ≠ "ValueError") (hD : ClsAt K c D) (h : isaT R y c = some b) (hC : ClsAt K y C) : PySem.W.exmOne K (.ref C) (.ref D) = some b := by
  obtain ⟨D', _, h2, F⟩ := E.at_ c hc
  have e := cls_eq hD h2
  subst e
  exact exm_of' F (E.sub' hc hv h hC hD)
theorem Excs.kit (E : Excs K mg R N) (hc : c ∈ N) (hv : c ≠ "ValueError") (hD : ClsAt K c D) (h : isaT R y c = some b) (hC : ClsAt K y C) : PySem.W.kitOne K (.ref C) (.ref D) = some b := by
  obtain ⟨D', _, h2, F⟩ := E.at_ c hc
  have e := cls_eq hD h2
  subst e
  have s := E.sub' hc hv h hC hD
  unfold PySem.W.kitOne
  split
  · rename_i z
    have z : Value.ref C = Value.ref D := beq_iff_eq.mp z
    cases z
    obtain ⟨hy, _⟩ := isaT_in h
    have q := E.sub y hy y (E.rn y hy) C C hC hC
    rw [s] at q
    rw [q, decide_eq_true rfl]
    rfl
  · exact kitCls_of F s
theorem Excs.kitV (E : Excs K mg R N) (h : isaT R y "ValueError" = some b) (hC : ClsAt K y C) : PySem.W.kitOne K (.ref C) (.type "ValueError") = some b := by
  obtain ⟨hy, e⟩ := isaT_in h
  have s := E.val y hy C hC
  unfold PySem.W.kitOne
  rw [if_neg (fun z => nomatch (beq_iff_eq.mp z : Value.ref C = Value.type "ValueError"))]
  show (if PySem.W.kitMeta "ValueError" = true then PySem.W.subIn K (.ref C) (.type "ValueError") else none) = _
  rw [if_pos (by decide +kernel), s, e, decide_eq_true (rfl : ("ValueError" : Str) = "ValueError"), Bool.or_true]
end
section
variable {X : Cx} {T : Tbs} {W : WX} {R N : List Str}
theorem mqs_raiseN {x m : Str} {j : Nat} {p p2 pos pos' : Pos} (E : Excs X.K X.mg R N) (hx : x ∈ R) (hc : X.calm = true) (hg : Gl X x) (tk : Takes X W) (hdb : (x == ("__debug__" : Str)) = false := by decide) :
    PS X (.Raise (some (.Call (.Name x p) [.Constant (.str m) j p2] [] pos)) none pos') (LMS X.K T W (mRaise x)) := by
  obtain ⟨C, h1, h2, _⟩ := E.at_ x (E.rn x hx)
  exact mqs_raise hc h2 h1 (E.rai x hx C h2).1 hg tk hdb
theorem mqs_tryKN {x n m : Str} {i j : Nat} {body : List Stmt} {np pos pos' q1 q2 q3 : Pos} {tb : MS} (Ex : Excs X.K X.mg R N) (hx : x ∈ N) (hxv : x ≠ "ValueError") (hg : Gl X x) (hdb : (x == ("__debug__" : Str)) = false) (hst : X.stack = X.env :: X.outer) (hfr0 : X.env.frame = some X.env.locals) (hex : X.ex = []) (hN : X.N.Nodup)
    (hi : X.N[i]? = some n) (hj : X.N[j]? = some m) (hln : X.env.kindOf n = some .local) (hlm : X.env.kindOf m = some .local) (tk : Takes X W) (hd1 : (n == ("__debug__" : Str)) = false) (hd2 : (n == ("__classdict__" : Str)) = false)
    (hb : ∀ (W : WX) (pn : List (Addr × Obj)) (xe : Value → Shared → Prop), Takes (X.tr pn xe) W → PassesOwn (model X.prog X.w) X.A X.env xe → PSs (X.tr pn xe) body (LMS X.K T W tb))
    (hsw : ∀ (a : Addr) (pn : List (Addr × Obj)), swapsWith (.Name n q1) (some (.Name m q2)) q3.line (X.suite a pn).env = pure false := by intro _ _; rfl) :
    PS X (.Try body [.ExceptHandler (some (.Name x np)) (some n) [.Assign [.Name m q2] (.Name n q1) q3] pos'] [] [] pos) (LMS X.K T W (mTryK R x i j tb)) := by
  obtain ⟨D, h1, h2, _⟩ := Ex.at_ x hx
  exact mqs_tryK (fun y b h C hC => Ex.exm hx hxv h2 h hC) hst hfr0 hex hN hi hj hln hlm ⟨hg, hdb, .inl h1⟩ tk hd1 hd2 hb hsw
theorem mq_isXN {a : Expr} {p p2 pos : Pos} {x : Str} {da : ME} {fa : Bool} (Ex : Excs X.K X.mg R N) (hx : x ∈ N) (hxv : x ≠ "ValueError") (hgx : Gl X x) (hdb : (x == ("__debug__" : Str)) = false) (hg : Gl X "isinstance") (hm : X.mg "isinstance" = none) (ha : PE X a (LM X.K T W fa da))
    (he : starEach [a, .Name x p2] X.env = (false, eval a X.env) :: starEach [.Name x p2] X.env := by rfl) (he2 : starEach [.Name x p2] X.env = (false, eval (.Name x p2) X.env) :: starEach [] X.env := by rfl) (hpl : (backTo pos (starEach [.Name x p2] X.env)).any (·.1) = false := by rfl) :
    PE X (.Call (.Name "isinstance" p) [a, .Name x p2] [] pos) (LM X.K T W true (mIsX R x da)) := by
  obtain ⟨D, h1, h2, _⟩ := Ex.at_ x hx
  exact mq_isX (cv := .ref D) (c := .ref D) (fun y b h C hC => ⟨(Ex.rai y (isaT_in h).1 C hC).2, Ex.kit hx hxv h2 h hC⟩) (fun u r => r) hg hm (pe_glob hgx h1 rfl hdb) ha he he2 hpl
theorem mq_isV {a : Expr} {p p2 pos : Pos} {da : ME} {fa : Bool} (Ex : Excs X.K X.mg R N) (hgx : Gl X "ValueError") (hmx : X.mg "ValueError" = none) (hg : Gl X "isinstance") (hm : X.mg "isinstance" = none) (ha : PE X a (LM X.K T W fa da))
    (he : starEach [a, .Name "ValueError" p2] X.env = (false, eval a X.env) :: starEach [.Name "ValueError" p2] X.env := by rfl) (he2 : starEach [.Name "ValueError" p2] X.env = (false, eval (.Name "ValueError" p2) X.env) :: starEach [] X.env := by rfl) (hpl : (backTo pos (starEach [.Name "ValueError" p2] X.env)).any (·.1) = false := by rfl) :
    PE X (.Call (.Name "isinstance" p) [a, .Name "ValueError" p2] [] pos) (LM X.K T W true (mIsX R "ValueError" da)) :=
  mq_isX (cv := .type "ValueError") (c := .ty "ValueError") (fun y b h C hC => ⟨(Ex.rai y (isaT_in h).1 C hC).2, Ex.kitV h hC⟩) (fun u r => r) hg hm (pe_bltn hgx hmx (by decide +kernel) rfl) ha he he2 hpl
/-! ### isinstance(e, (A, B, ..)) -/
inductive NamesL (X : Cx) (N : List Str) : List Expr → List Str → Prop
  | nil : NamesL X N [] []
  | cons {x : Str} {p : Pos} {es : List Expr} {xs : List Str} (hx : x ∈ N) (hv : x ≠ "ValueError") (hg : Gl X x) (hd : (x == ("__debug__" : Str)) = false) (r : NamesL X N es xs) : NamesL X N (.Name x p :: es) (x :: xs)
theorem NamesL.pa (Ex : Excs X.K X.mg R N) : ∀ {es : List Expr} {xs : List Str}, NamesL X N es xs → ∃ Ds : List Addr, Paired (fun x D => x ∈ N ∧ x ≠ "ValueError" ∧ ClsAt X.K x D) xs Ds ∧ PA X es (fun _ H Q => Q (Ds.map V.ref) H)
  | _, _, .nil => ⟨[], .nil, pa_nil⟩
  | _, _, .cons (x := x) hx hv hg hd r => by
    obtain ⟨Ds, h1, h2⟩ := NamesL.pa Ex r
    obtain ⟨D, g1, g2, _⟩ := Ex.at_ x hx
    exact ⟨D :: Ds, .cons ⟨hx, hv, g2⟩ h1, pa_cons (pe_glob hg g1 (v := .ref D) rfl hd) h2 rfl⟩
def isaAny (R : List Str) (y : Str) (xs : List Str) : Option Bool := if y ∈ R then some (xs.any fun c => decide (c = y) || decide (c = "GapError")) else none
theorem Excs.any (Ex : Excs X.K X.mg R N) {y : Str} {C : Addr} (hy : y ∈ R) (hC : ClsAt X.K y C) : ∀ {xs : List Str} {Ds : List Addr}, Paired (fun x D => x ∈ N ∧ x ≠ "ValueError" ∧ ClsAt X.K x D) xs Ds → PySem.W.kitAny X.K (.ref C) (Ds.map Value.ref) = some (xs.any fun c => decide (c = y) || decide (c = "GapError"))
  | _, _, .nil => rfl
  | x :: xs, D :: Ds, .cons ⟨hx, hv, hD⟩ r => by
    have h1 := Ex.kit (y := y) (C := C) hx hv hD (by unfold isaT; rw [if_pos hy]) hC
    rw [decide_eq_false hv, Bool.or_false] at h1
    rw [List.any_cons]
    refine kitAny_cons h1 (fun e => ?_) (fun e => ?_)
    · rw [e, Bool.false_or]
      exact Excs.any Ex hy hC r
    · rw [e, Bool.true_or]
def rIsXs (K : PySem.W.Frag) (Ds : List Addr) : List V → Hp → VK → Prop := fun xs H Q => ∃ (a D tp : Addr) (b : Bool), xs = [.ref a, .ref tp] ∧ H a = some (ExX (.ref D) none a) ∧ H tp = some (.tup (Ds.map V.ref)) ∧ ExcC K D ∧ PySem.W.kitAny K (.ref D) (Ds.map Value.ref) = some b ∧ Q (.bl b) H
theorem vals_refs : ∀ {Ds : List Addr} {us : List Value}, Vals (Ds.map V.ref) us → us = Ds.map Value.ref
  | [], _, .nil => rfl
  | D :: Ds, _, .cons r t => by
    cases r
    rw [vals_refs t]
    rfl
theorem call_isXs {Ds : List Addr} : CallR X (.builtin "isinstance") (rIsXs X.K Ds) := by
  intro pins s σ H xs us Q I r h
  obtain ⟨a, D, tp, b, rfl, ha, ht, C, e, q⟩ := h
  cases r with
  | cons rx rr =>
    cases rr with
    | cons rt rr =>
      cases rr
      cases rx
      cases rt
      obtain ⟨_, its, rv, o, h1, h2, n, h3⟩ := (show ObjOk X.prog X.w H s.heap tp (.tup (Ds.map V.ref)) from I.hok tp _ ht)
      have e3 := vals_refs rv
      subst e3
      obtain ⟨tc, td, tt, tsl⟩ := o
      dsimp only at h2 h3
      subst h2 h3
      obtain ⟨⟨oe, vs, hget, hz, hv⟩, _⟩ := I.hok a _ ha
      have J : PySem.W.InstAt s.heap a oe D none := by
        obtain ⟨oc, od, oda, osl⟩ := oe
        obtain ⟨h1, h2⟩ := hz
        dsimp only at h1 h2 hv
        subst h1 h2 hv
        exact ⟨hget, rfl, rfl, trivial⟩
      exact PySem.W.kia_tup (PySem.W.handS_kitx_exc C.hg C.hk C.hs C.hd C.ha C.hn C.ht C.hm) I.kIn J h1 e (fun z => nomatch z) fun tk => ⟨.bl b, H, I.kept (t' := tk) fun _ _ z => z, rfl, q⟩
def fIsXsD (R : List Str) (xs : List Str) (P : Val → Prop) : D → Prop
  | .exc y none => onO (isaAny R y xs) fun b => P (.dat (.bl b))
  | _ => False
def fIsXs (R : List Str) (xs : List Str) : F1 := fun v P => fIsXsD R xs P v.d
def mIsXs (R : List Str) (xs : List Str) (da : ME) : ME := fun xc r S P => da xc r S fun v S1 => fIsXs R xs v fun z => P z S1
theorem mq_isXs {a : Expr} {es : List Expr} {x1 : Nat} {p p2 pos : Pos} {xs : List Str} {da : ME} {fa : Bool} (Ex : Excs X.K X.mg R N) (hs : NamesL X N es xs) (hl : xs.length ≤ 1000) (hg : Gl X "isinstance") (hm : X.mg "isinstance" = none) (ha : PE X a (LM X.K T W fa da))
    (he : starEach [a, .Tuple es x1 p2] X.env = (false, eval a X.env) :: starEach [.Tuple es x1 p2] X.env := by rfl) (he2 : starEach [.Tuple es x1 p2] X.env = (false, eval (.Tuple es x1 p2) X.env) :: starEach [] X.env := by rfl) (hpl : (backTo pos (starEach [.Tuple es x1 p2] X.env)).any (·.1) = false := by rfl) :
    PE X (.Call (.Name "isinstance" p) [a, .Tuple es x1 p2] [] pos) (LM X.K T W true (mIsXs R xs da)) := by
  obtain ⟨Ds, hp, hpa⟩ := hs.pa Ex
  refine imE (pe_callB (call_isXs (Ds := Ds)) hg hm (by decide +kernel) (pa_cons ha (pa_cons (pe_tup hpa) pa_nil he2) he) (by decide) (by decide) he hpl) fun s H Q ⟨B, r, S, xc, P, g, h, hx, hq⟩ => ⟨B, r, S, xc, _, g, h, hx, fun x vx H1 B1 S1 z1 rx _ q => ?_⟩
  have hlen := hp.length
  refine ⟨by rw [List.length_map, ← hlen]; exact Nat.le_trans hl (by decide), fun tp ntp => ?_⟩
  have g1 := g.step z1
  have z2 : SM X.K T B1 H1 S1 (upd B1 tp (.tup (Ds.map V.ref))) (upd H1 tp (.tup (Ds.map V.ref))) S1 := (Step.new z1.sub ntp).m z1.sub z1.st
  unfold fIsXs fIsXsD at q
  split at q
  · rename_i y e
    obtain ⟨b, hb, q⟩ := onO_elim q
    unfold isaAny at hb
    split at hb
    · rename_i hy
      cases vx with
      | tmp c => cases c <;> cases e
      | dat d =>
        cases (show d = .exc y none from e)
        cases rx.1 with
        | exc hc hb1 hpl =>
          cases hpl
          have ha1 := (z1.sub _ _ hb1).1 DrawO.ext
          have ha2 : upd H1 tp (.tup (Ds.map V.ref)) _ = _ := (upd_ne (ne_of_none ha1 ntp)).trans ha1
          have ek := Ex.any hy hc hp
          rw [Option.some.inj hb] at ek
          exact ⟨_, _, tp, b, rfl, ha2, upd_same, (Ex.rai y hy _ hc).2, ek, hq _ (.dat (.bl b)) _ _ S1 (z1.trans z2) (.dat (.bl b)) (fun _ => Fr.dat) q⟩
    · cases hb
  · exact q.elim
end
end Ml
/-! Ml8: equations by which these readings are opened. -/
namespace Ml
open PySem PySem.Spec PyProof.Rows L2 Dl LamX
section
variable {S : Sto}
theorem w001 (c : Ct) : vw S (.tmp c) = .tmp c := rfl
theorem w002 (i : Int) : vw S (.dat (.int i)) = .dat (.int i) := rfl
theorem w003 (i : Bool) : vw S (.dat (.bl i)) = .dat (.bl i) := rfl
theorem w004 (i : Str) : vw S (.dat (.str i)) = .dat (.str i) := rfl
theorem w005 (i : List D) : vw S (.dat (.tup i)) = .dat (.tup i) := rfl
theorem w006 (i : List D) : vw S (.dat (.lst i)) = .dat (.lst i) := rfl
theorem w007 (i : List (Key × D)) : vw S (.dat (.dic i)) = .dat (.dic i) := rfl
theorem w008 : vw S (.dat .non) = .dat .non := rfl
theorem w009 (i : String) : vw S (.dat (.ty i)) = .dat (.ty i) := rfl
theorem w010 : vw S (.dat .draw) = .dat .draw := rfl
theorem w011 : vw S (.dat .drawl) = .dat .drawl := rfl
theorem w012 (i : List Int) : vw S (.dat (.scr i)) = .dat (.scr i) := rfl
theorem w013 (i : Str) (o : Option Int) : vw S (.dat (.exc i o)) = .dat (.exc i o) := rfl
theorem w014 (R : List Str) (x y : Str) (P : Val → Prop) : fIsXD R x P (.exc y none) = onO (isaT R y x) fun b => P (.dat (.bl b)) := rfl
theorem w015 (R xs : List Str) (y : Str) (P : Val → Prop) : fIsXsD R xs P (.exc y none) = onO (isaAny R y xs) fun b => P (.dat (.bl b)) := rfl
theorem vw_ne {d : D} (h : ∀ a, d ≠ .obj a) : vw S (.dat d) = .dat d := by
  cases d with
  | obj a => exact absurd rfl (h a)
  | _ => rfl
end
theorem mseq_k {t u : MS} {xc : MX} {E : MEnds} {r : DEnv} {S : Sto} (h : ∀ K : DEnv → Sto → Prop, K = u xc E → t xc { E with nx := K } r S) : mSeq t u xc E r S := h _ rfl
end Ml
/-! Ml9: further rules by data: C[k], extend, reverse, count, index, a, b = x, y; makers of lambdas. -/
namespace Dl
open PySem PySem.Spec PyProof.Rows L2
section
variable {X : Cx} {W : WX}
/-! ### C[k], C a written dict of the top -/
def dKIx (tbl : List (Str × D)) (dk : DE) : DE := fun xc r P => dk xc r fun k => asS (fun z => onO (tabV tbl z) fun d => P (.dat d)) k.d
theorem q_kix {x : Str} {e : Expr} {p pos : Pos} {a : Addr} {tbl : List (Str × D)} {dk : DE} {f2 : Bool} (T : KTab X.K X.w a tbl) (hg : Gl X x) (hm : X.mg x = some (.ref a)) (he : PE X e (L X.K W f2 dk)) (hs : NoSl e := by exact fun _ _ => rfl) (hd : (x == ("__debug__" : Str)) = false := by decide) :
    PE X (.Subscript (.Name x p) e pos) (L X.K W true (dKIx tbl dk)) := by
  obtain ⟨⟨es, n, hl, hk, hen⟩, low⟩ := T
  refine ⟨fun pins s σ H Q I ⟨B, r, xc, P, k, en, h, hx, hq⟩ => ?_⟩
  refine subD_of PySem.F.slot_dict_getitem.lookup hs (thn ((pe_glob (v := .ref a) hg hm rfl hd).run pins s σ H (fun v H' => v = .ref a ∧ H' = H) I ⟨rfl, rfl⟩) fun u s1 ⟨x, H1, I1, rx, ex, eh⟩ =>
    thn (he.run pins s1 σ H1 (fun y H2 => ∃ B2 vy, Step B H1 B2 H2 ∧ RepV X.K B2 H2 y vy ∧ asS (fun z => onO (tabV tbl z) fun d => P (.dat d)) vy.d) I1 (by subst eh; exact ⟨B, r, xc, _, k, en, h, hx, fun y vy H2 B2 z2 ry _ q2 => ⟨B2, vy, z2, ry, q2⟩⟩)) fun iv s2 ⟨y, H2, I2, ry, B2, vy, z2, ryv, q2⟩ => ?_)
  subst ex eh
  obtain rfl : u = Value.ref a := rx
  obtain ⟨z, ez, q3⟩ := asS_elim q2
  obtain ⟨d, ed, q3⟩ := onO_elim q3
  have ey := rv_str ryv ez
  subst ey
  obtain ⟨t, rfl⟩ := ry
  have hm2 := PySem.W.mapOf_K (prog := X.prog) (w := X.w) I2.kIn hl hk
  have fd := KTab.find hen z
  rw [ed] at fd
  obtain ⟨v, h1, h2⟩ := fd
  obtain ⟨h3, h4⟩ := entOk_flat h2
  exact ⟨hm2.typeIs, wpAny_getItem_of (strKind_is X.prog X.w z t) hm2 h1 ⟨_, H2, I2.tok _, h4, hq _ (.dat d) H2 B2 z2 (rep_flat h3) (fun _ => Fr.dat) q3⟩⟩
/-! ### x.extend(e), x.reverse(), x a local's own list -/
def dExtend (i : Nat) (de : DE) : DS := dAugL i de
theorem qs_extend {i : Nat} {x : Str} {e : Expr} {de : DE} {p1 p2 p3 pos : Pos} {f1 : Bool} (hx : PE X (.Name x p1) (tVar i)) (he : PE X e (L X.K W f1 de))
    (h : PE X (.Call (.Attribute (.Name x p1) "extend" p2) [e] [] p3) (tBM X.K "list" rExtend (tVar i) (tCons (L X.K W f1 de) tNil)))
    (hs : swapsWith (.Call (.Attribute (.Name x p1) "extend" p2) [e] [] p3) none pos.line X.env = pure false := by rfl) : PS X (.Expr (.Call (.Attribute (.Name x p1) "extend" p2) [e] [] p3) pos) (LS X.K W (dExtend i de)) := by
  refine imS (ps_expr h hs) fun E s H ⟨B, r, xc, De, k, en, h, hx, nx, bk, ct, rt⟩ => ?_
  unfold dExtend dAugL at h
  split at h
  · rename_i l hl
    obtain ⟨p, hp, n, w⟩ := own_at en hl
    obtain ⟨vs, hv, rl⟩ := id w
    refine ⟨.ref p, hp, .inl ⟨rfl, vs, .inl (.inl hv)⟩, ?_⟩
    refine ⟨B, r, xc, _, k, en, h, fun cls d e H' B' z => hx cls d e s r H' B' z.s (en.step z), fun y vy H1 B1 z ry _ q => ?_⟩
    unfold extD at q
    split at q
    · rename_i m em
      obtain ⟨a, ws, rfl, hw, rm⟩ := rv_lst z.sub ry em
      have hv1 := z.out p _ hv n
      have rl1 := rl.mono z.kp
      obtain ⟨en2, z2⟩ := own_write (o := .lst (vs ++ ws)) (c' := .lst (l ++ m)) z.sub (en.step z) hl hp hv1.2 ⟨_, upd_same, rl1.append rm⟩
      exact ⟨p, a, vs, ws, rfl, rfl, hv1.1, hw, by rw [rl1.length, rm.length]; exact q.1, nx _ _ _ _ (z.s.trans z2) en2 q.2⟩
    · exact q.elim
  · exact h.elim
theorem RepL.reverse {K : PySem.W.Frag} {B : Hp} : ∀ {vs : List V} {ds : List D}, RepL K B vs ds → RepL K B vs.reverse ds.reverse
  | _, _, .nil => .nil
  | _, _, .cons h r => by
    rw [List.reverse_cons, List.reverse_cons]
    exact (RepL.reverse r).append (.cons h .nil)
def dReverse (i : Nat) : DS := fun xc E r => match lk r i with
  | some (.tmp (.lst l)) => E.nx (st r i (some (.tmp (.lst l.reverse))))
  | _ => False
theorem qs_reverse {i : Nat} {x : Str} {p1 p2 p3 pos : Pos} (h : PE X (.Call (.Attribute (.Name x p1) "reverse" p2) [] [] p3) (tBM0 X.K "list" rReverse (tVar i)))
    (hs : swapsWith (.Call (.Attribute (.Name x p1) "reverse" p2) [] [] p3) none pos.line X.env = pure false := by rfl) : PS X (.Expr (.Call (.Attribute (.Name x p1) "reverse" p2) [] [] p3) pos) (LS X.K W (dReverse i)) := by
  refine imS (ps_expr h hs) fun E s H ⟨B, r, xc, De, k, en, h, hx, nx, bk, ct, rt⟩ => ?_
  unfold dReverse at h
  split at h
  · rename_i l hl
    obtain ⟨p, hp, n, w⟩ := own_at en hl
    obtain ⟨vs, hv, rl⟩ := id w
    obtain ⟨en2, z2⟩ := own_write (o := .lst vs.reverse) (c' := .lst l.reverse) k en hl hp n ⟨_, upd_same, rl.reverse⟩
    exact ⟨.ref p, hp, .inl ⟨rfl, vs, .inl (.inl hv)⟩, p, vs, rfl, rfl, hv, nx _ _ _ _ z2 en2 h⟩
  · exact h.elim
/-! ### xs.count(x), xs.index(x), of flat things -/
def rCntF (K : PySem.W.Frag) : V → List V → Hp → VK → Prop := fun x xs H Q => ∃ (a : Addr) (ys : List V) (y : V), x = V.ref a ∧ xs = [y] ∧ SqL K H a ys ∧ flatV y = true ∧ ys.all flatV = true ∧ Q (.int ((ys.countP fun z => eqV z y : Nat) : Int)) H
theorem cnt_eqU {x : V} : ∀ {xs : List V} {us : List Value}, Vals xs us → xs.all flatV = true → us.countP (eqU x) = xs.countP fun y => eqV y x
  | _, _, .nil, _ => rfl
  | _, _, .cons r t, f => by
    rw [List.all_cons, Bool.and_eq_true] at f
    rw [List.countP_cons, List.countP_cons, eqU_of r f.1, cnt_eqU t f.2]
theorem mt_cntF : MtR X "list.count" (rCntF X.K) := by
  intro pins s σ H x xs v us Q I rx rxs h
  obtain ⟨a, ys, y, rfl, rfl, hs, fy, fys, q⟩ := h
  cases rx
  cases rxs with
  | cons ry rt =>
    rename_i uy ut
    cases rt
    obtain ⟨its, rv, ⟨⟨cls, dd, data, sl⟩, n, ho, hc, hdn, hd⟩, hlen⟩ := I.list hs
    simp only at hc hd
    subst hc hd
    refine call_meets PySem.F.slot_list_count ⟨_, ho, rfl⟩ PySem.F.entry_list_count (PySem.F.args_list_count_2 _ _)
      (SeqAt.list_countAt a its.toArray n dd sl uy (eqU y)) ⟨ho, fun u' hu' => mem_eqAt ry fy rv fys u' (by simpa using hu'), ?_⟩
    refine ⟨.int ((ys.countP fun z => eqV z y : Nat) : Int), H, I.tok _, ⟨s.toks, ?_⟩, q⟩
    show Value.int ((its.countP (eqU y) : Nat) : Int) s.toks = _
    rw [cnt_eqU rv fys]
theorem rep_flats {K : PySem.W.Frag} {B : Hp} : ∀ {vs : List V} {ds : List D}, RepL K B vs ds → ds.all flatD = true → vs = ds.map dV
  | _, _, .nil, _ => rfl
  | _, _, .cons h r, f => by
    rw [List.all_cons, Bool.and_eq_true] at f
    rw [flat_rep h f.1, rep_flats r f.2]
    rfl
theorem flat_dV {d : D} (h : flatD d = true) : flatV (dV d) = true := by cases d <;> first | rfl | cases h
def eqF (a b : D) : Bool := eqV (dV a) (dV b)
def fCntD (P : Val → Prop) : D → D → Prop
  | .lst l, y => (flatD y = true ∧ l.all flatD = true) ∧ P (.dat (.int ((l.countP fun z => eqF z y : Nat) : Int)))
  | _, _ => False
def fCnt : F2 := fun x y P => fCntD P x.d y.d
def fIdxD (P : Val → Prop) : D → D → Prop
  | .lst l, y => (flatD y = true ∧ l.all flatD = true) ∧ onO (l.findIdx? fun z => eqF z y) fun j => P (.dat (.int (j : Int)))
  | _, _ => False
def fIdx : F2 := fun x y P => fIdxD P x.d y.d
def asL (P : List D → Prop) : D → Prop
  | .lst l => P l
  | _ => False
theorem asL_elim {P : List D → Prop} {d : D} (h : asL P d) : ∃ b, d = .lst b ∧ P b := by
  cases d <;> first | exact ⟨_, rfl, h⟩ | exact h.elim
def dM2 (f : F2) (da db : DE) : DE := fun xc r P => da xc r fun x => asL (fun _ => db xc r fun y => f x y P) x.d
def RelL (K : PySem.W.Frag) (rr : V → List V → Hp → VK → Prop) (f : F2) : Prop := ∀ (B H : Hp) (x y : V) (vx vy : Val) (P : Val → Prop) (Q : VK), Kp B H → RepV K B H x vx → RepV K B H y vy → f vx vy P → Ans K B H P Q → rr x [y] H Q
theorem l_m2 {rr : V → List V → Hp → VK → Prop} {f : F2} {da db : DE} {f1 f2 : Bool} (hr : RelL X.K rr f) (s : L2.St) (H : Hp) (Q : VK) (h : L X.K W true (dM2 f da db) s H Q) : tBM X.K "list" rr (L X.K W f1 da) (tCons (L X.K W f2 db) tNil) s H Q := by
  obtain ⟨B, r, xc, P, k, en, h, hx, hq⟩ := h
  refine ⟨B, r, xc, _, k, en, h, hx, fun x vx H1 B1 z1 rx _ q => ?_⟩
  obtain ⟨l, el, q⟩ := asL_elim q
  obtain ⟨a, vs, rfl, hv, rl⟩ := rv_lst z1.sub rx el
  refine ⟨.inl ⟨rfl, vs, .inl (.inl hv)⟩, B1, r, xc, _, z1.sub, en.step z1, q, fun cls d e H' B' z => hx cls d e H' B' (z1.trans z), fun y vy H2 B2 z2 ry _ q2 => ?_⟩
  exact hr B2 H2 _ y vx vy P Q z2.sub (rx.step z2) ry q2 fun v z H3 B3 s3 rv fr p => hq v z H3 B3 ((z1.trans z2).trans s3) rv (fun _ => (fr.back z2).back z1) p
theorem q_lcount {o e : Expr} {p2 p3 : Pos} {da db : DE} {f1 f2 : Bool} (h : PE X (.Call (.Attribute o "count" p2) [e] [] p3) (tBM X.K "list" (rCntF X.K) (L X.K W f1 da) (tCons (L X.K W f2 db) tNil))) : PE X (.Call (.Attribute o "count" p2) [e] [] p3) (L X.K W true (dM2 fCnt da db)) := imE h (l_m2 (by
  intro B H x y vx vy P Q k rx ry h a
  unfold fCnt fCntD at h
  split at h
  · rename_i l e1
    obtain ⟨⟨fy, fl⟩, q⟩ := h
    obtain ⟨p, vs, rfl, hv, rl⟩ := rv_lst k rx e1
    have ev := rep_flats rl fl
    subst ev
    have ey : y = dV vy.d := by
      cases vy with
      | tmp c => cases c <;> cases fy
      | dat d => exact flat_rep ry fy
    subst ey
    refine ⟨p, _, _, rfl, rfl, .inl (.inl hv), flat_dV fy, ?_, ?_⟩
    · rw [List.all_map, List.all_eq_true]
      exact fun z hz => flat_dV (List.all_eq_true.mp fl z hz)
    · rw [List.countP_map]
      exact a.dat k (.int _) q
  · exact h.elim))
theorem q_lindex {o e : Expr} {p2 p3 : Pos} {da db : DE} {f1 f2 : Bool} (h : PE X (.Call (.Attribute o "index" p2) [e] [] p3) (tBM X.K "list" (rIndex X.K) (L X.K W f1 da) (tCons (L X.K W f2 db) tNil))) : PE X (.Call (.Attribute o "index" p2) [e] [] p3) (L X.K W true (dM2 fIdx da db)) := imE h (l_m2 (by
  intro B H x y vx vy P Q k rx ry h a
  unfold fIdx fIdxD at h
  split at h
  · rename_i l e1
    obtain ⟨⟨fy, fl⟩, q⟩ := h
    obtain ⟨j, ej, q⟩ := onO_elim q
    obtain ⟨p, vs, rfl, hv, rl⟩ := rv_lst k rx e1
    have ev := rep_flats rl fl
    subst ev
    have ey : y = dV vy.d := by
      cases vy with
      | tmp c => cases c <;> cases fy
      | dat d => exact flat_rep ry fy
    subst ey
    obtain ⟨hj, h1, h2⟩ := List.findIdx?_eq_some_iff_getElem.mp ej
    refine ⟨p, _, _, j, dV l[j], rfl, rfl, .inl (.inl hv), flat_dV fy, ?_, ?_, h1, fun m z' hm hz => ?_, a.dat k (.int _) q⟩
    · rw [List.all_map, List.all_eq_true]
      exact fun z hz => flat_dV (List.all_eq_true.mp fl z hz)
    · rw [List.getElem?_map, List.getElem?_eq_getElem hj]
      rfl
    · have hml : m < l.length := by omega
      rw [List.getElem?_map, List.getElem?_eq_getElem hml] at hz
      cases hz
      have q2 := h2 m hm
      simpa [eqF] using q2
  · exact h.elim))
/-! ### a, b = x, y of plain locals -/
def dPar (i j : Nat) (da : DA) : DS := fun xc E r => da xc r fun ds => match ds with
  | [a, b] => E.nx (st (st r i (some (.dat a))) j (some (.dat b)))
  | _ => False
theorem qs_par {i j : Nat} {x y : Str} {a b : Expr} {da : DA} {px py pt pos : Pos} {kt : Nat} {k2 : Nat} {pt2 : Pos} (hc : X.calm = true) (hN : X.N.Nodup) (hi : X.N[i]? = some x) (hj : X.N[j]? = some y) (hij : i ≠ j)
    (hx : X.env.scope.names.lookup x = some .local) (hy : X.env.scope.names.lookup y = some .local) (ha : PA X [a, b] (LA X.K W da))
    (hw : swappedStores [.Tuple [.Name x px, .Name y py] kt pt] (.Tuple [a, b] k2 pt2) X.env = pure (some [x, y]) := by rfl)
    (hs : swapsWithSole [.Tuple [.Name x px, .Name y py] kt pt] (.Tuple [a, b] k2 pt2) pos.line X.env = pure false := by rfl) :
    PS X (.Assign [.Tuple [.Name x px, .Name y py] kt pt] (.Tuple [a, b] k2 pt2) pos) (LS X.K W (dPar i j da)) := by
  refine imS (ps_par hc hN hi hj hij hx hy ha hw hs) fun E s H ⟨B, r, xc, De, k, en, h, hx, nx, bk, ct, rt⟩ => ?_
  refine ⟨B, r, xc, _, k, en, h, fun cls d e H' B' z => hx cls d e s r H' B' z.s (en.step z), fun vs ds H1 B1 z rl q => ?_⟩
  cases rl with
  | nil => exact q.elim
  | cons r1 rl =>
    cases rl with
    | nil => exact q.elim
    | cons r2 rl =>
      cases rl with
      | cons _ _ => exact q.elim
      | nil =>
        obtain ⟨en1, o1⟩ := setD (i := i) (en.step z) r1
        obtain ⟨en2, o2⟩ := setD (i := j) en1 r2
        exact ⟨_, _, rfl, nx _ _ H1 B1 ⟨z.kp, z.sub, fun a o h n w => ⟨(z.out a o h n).1, (z.out a o h n).2, fun q => w (o1 a (o2 a q))⟩, fun _ _ h => z.has h⟩ en2 q⟩
end
end Dl
namespace Ml
open PySem PySem.Spec PyProof.Rows L2 Dl LamX
section
variable {X : Cx} {T : Tbs} {W : WX}
/-! ### xs.count(x), xs.index(x): with a store -/
def mM2 (f : F2) (da db : ME) : ME := fun xc r S P => da xc r S fun x S1 => asL (fun _ => db xc r S1 fun y S2 => f x y fun z => P z S2) x.d
theorem lm_m2 {rr : V → List V → Hp → VK → Prop} {f : F2} {da db : ME} {f1 f2 : Bool} (hr : RelL X.K rr f) (s : L2.St) (H : Hp) (Q : VK) (h : LM X.K T W true (mM2 f da db) s H Q) : tBM X.K "list" rr (LM X.K T W f1 da) (tCons (LM X.K T W f2 db) tNil) s H Q := by
  obtain ⟨B, r, S, xc, P, g, h, hx, hq⟩ := h
  refine ⟨B, r, S, xc, _, g, h, hx, fun x vx H1 B1 S1 z1 rx _ q => ?_⟩
  obtain ⟨l, el, q⟩ := asL_elim q
  obtain ⟨a, vs, rfl, hv, rl⟩ := rv_lst z1.sub rx.1 el
  refine ⟨.inl ⟨rfl, vs, .inl (.inl hv)⟩, B1, r, S1, xc, _, g.step z1, q, hx.on z1, fun y vy H2 B2 S2 z2 ry _ q2 => ?_⟩
  have z := z1.trans z2
  have g2 := g.step z
  exact hr B2 H2 _ y vx vy _ Q z2.sub (rx.step z2).1 ry.1 q2 fun v w H3 B3 s3 rv fr p => hq v w H3 B3 S2 (z.trans (s3.m g2.kp g2.st)) (RepM.fresh g2.tb g2.st rv fr) (fun _ => z.fr fr) p
end
/-! ### makers of lambdas -/
/-- a def whose code object is told -/
structure FunC (K : PySem.W.Frag) (x qual : Str) (sm : Stmt) (f : Addr) (fd : FuncData) (c : Addr) : Prop where
  ex : ∃ (oc : Value) (od : Option Addr) (kV doc pm : Value) (an : Option Addr) (ct : Value) (osl : Array (Option Value)),
    fd = PySem.W.fnOf x qual (defArgs sm) (defBody sm) (defScope sm) .none kV doc pm an (.ref c) ct ∧ K.lookup f = some ⟨oc, od, .func fd, osl⟩ ∧ PySem.W.codeIn K (.ref c) qual = true
section
variable {P : Program} {w : World} {K : PySem.W.Frag} {T : Tbs} {mg : Str → Option Value} {base : Heap}
theorem fn_mC {x qual : Str} {sm : Stmt} {f c : Addr} {fd : FuncData} {N ps : List Str} {k : Nat} {sp : MSp} {body : MS} (F : FunC K x qual sm f fd c) (Sc : FnScope N ps (defScope sm))
    (len : ∀ ds S xc R, sp ds S xc R → ds.length = ps.length)
    (hb : ∀ (A : Around) (outer : List Env) (s : Shared) (H : Hp), Room k (A.deeper (envOfC qual (defScope sm) s.heap.objs.size f (.ref c))) →
      PSs (cxOf CX0 P w K mg base N qual (defScope sm) f (.ref c) A outer s H E0).nox (defBody sm) (LMS K T W0 body))
    (h : ∀ ds S xc R, sp ds S xc R → body XM0 { nx := fun _ S => R (.dat .non) S, rt := R } (args N ds) S) : FnOk P w K mg base CX0 (k + 1) f fd ps (spM K T sp) := by
  obtain ⟨oc, od, kV, doc, pm, an, ct, osl, rfl, lk, hcd⟩ := F.ex
  refine fn_of lk hcd Sc (fun vs H Q E hq => ?_) (fun A outer s H vs Q E hr hq => ?_)
  · obtain ⟨B, ds, S, xc, R, k, rl, _, _, hs, _⟩ := hq
    rw [rl.length]
    exact len ds S xc R hs
  · obtain ⟨B, ds, S, xc, R, k, rl, st, tb, hs, _, rt⟩ := hq
    refine ⟨_, (hb A outer s H hr).nox, ?_⟩
    have g := good_start (N := N) k rl st tb
    refine ⟨B, args N ds, S, XM0, _, g, h ds S xc R hs, fun _ _ _ _ _ _ _ _ _ _ z => z.elim, fun s' r' H' B' S' z q => ?_, fun _ _ _ _ _ _ z => z.elim, fun _ _ _ _ _ _ z => z.elim, fun v x H' B' S' z q => ?_⟩
    · exact rt .non (.dat .non) H' B' S' z.endN (.dat .non) Fr.dat q
    · obtain ⟨z1, rv, fr⟩ := z.end_ g
      exact rt v x H' B' S' z1 rv fr q
end
section
variable {X : Cx} {T : Tbs} {W : WX}
/-- told(lambda: e), told as the text has it -/
theorem mq_lamF {x a : Str} {g c P : Addr} {k : Nat} {sg : Stmt} {fdg : FuncData} {Ng : List Str} {params : Arguments} {body : Expr} {scope : Scope} {spH : MH} {de : ME} {p lpos pos : Pos}
    (F : Fun X.K x x sg g fdg) (hg : Gl X x) (hm : X.mg x = some (.ref g)) (hb : L2.Binds X.K fdg [a] []) (Sg : FnScope Ng [a] (defScope sg)) (hNg : Ng[0]? = some a) (hva : Vis (defScope sg) a)
    (hG : ∀ cdv, GivesM X T (k + 1) Ng x (defScope sg) g cdv (defBody sg) a (X.env.qual ++ "<lambda>") spH) (TB : TabB X.base X.mg c P) (hcode : X.env.code = .ref c) (hmT : (P, X.env.qual ++ "<lambda>") ∈ T) (hu : ∀ p ∈ T, p.1 = P → p.2 = X.env.qual ++ "<lambda>") (hr : Room (k + 2) X.A) (Ls : LamS X.env.scope scope) (hdef : defaultsOf params X.env = ([], []))
    (hbind : ∀ (q : Str) (cl : List (Str × Addr)) (pm cv ctv : Value), bindArgs (PySem.W.kla_fn "<lambda>" q params body scope cl pm cv ctv) ⟨[], []⟩ = pure [])
    (hbody : ∀ (A : Around) (outer : List Env) (s : Shared) (H : Hp) (E : XK) (f c1 : Addr), Room k (A.deeper (lamEnv X scope s.heap.objs.size f c1)) → PE (lamCx X A outer s H E scope f c1) body (LM X.K T (fun cls d _ H => E cls d H) true de))
    (hdb : (x == ("__debug__" : Str)) = false := by decide) (hd : (a == ("__debug__" : Str)) = false := by decide) (hcd : (a == ("__classdict__" : Str)) = false := by decide) :
    PE X (.Call (.Name x p) [.Lambda params body scope lpos] [] pos) (LM X.K T W true (mLam spH de)) := by
  obtain ⟨oc, od, kV, doc, pm, an, cdv, ct, osl, rfl, lk, hcg⟩ := F.ex
  exact mq_lam hg hm F.kp lk hcg hb Sg hNg hva (hG cdv) TB hcode hmT hu hr Ls hdef hbind hbody hdb hd hcd
/-- a def that gets a lambda keeps its promise -/
theorem gives_m {k : Nat} {Ng : List Str} {x a q : Str} {sg : Scope} {g : Addr} {cdg : Value} {bg : List Stmt} {spH : MH} {body : Addr → Hp → MLam → MS}
    (hb : ∀ (s : Shared) (H : Hp) (f c1 : Addr) (B0 : Hp) (tl : XK → Hp → VK → Prop) (lam : MLam), Room k (X.A.deeper (envOfC x sg s.heap.objs.size g cdg)) →
      (∀ (W : WX) (pn : List (Addr × Obj)) (xe : Value → Shared → Prop) (p1 p2 : Pos), Takes ((cxOf C8.CX0 X.prog X.w X.K X.mg X.base Ng x sg g cdg X.A X.stack s H C8.E0).tr pn xe) W →
        PE ((cxOf C8.CX0 X.prog X.w X.K X.mg X.base Ng x sg g cdg X.A X.stack s H C8.E0).tr pn xe) (.Call (.Name a p1) [] [] p2) (LM X.K T W true (mAct f B0 lam))) →
      PSs (cxOf C8.CX0 X.prog X.w X.K X.mg X.base Ng x sg g cdg X.A X.stack s H C8.E0).nox bg (LMS X.K T W0 (body f B0 lam)))
    (h : ∀ f B0 lam S P, spH lam S P → body f B0 lam XM0 { nx := fun _ S => P (.dat .non) S, rt := P } (args Ng [.clo f B0]) S) : GivesM X T k Ng x sg g cdg bg a q spH := by
  intro f c1 s H Q tl lam B S P hr act hc kp st tb tn ok hs hq
  refine ⟨_, hb s H f c1 B tl lam hr (fun W pn xe p1 p2 tk => mq_act (act W pn xe p1 p2 tk) hc ok), ?_⟩
  have g := good_start (N := Ng) (vs := [.ref f]) (ds := [.clo f B]) kp (.cons (.clo (.refl B)) .nil) st ⟨tb, tn⟩
  refine ⟨B, args Ng [.clo f B], S, XM0, _, g, h f B lam S P hs, fun _ _ _ _ _ _ _ _ _ _ z => z.elim, fun s' r' H' B' S' z q => ?_, fun _ _ _ _ _ _ z => z.elim, fun _ _ _ _ _ _ z => z.elim, fun v x H' B' S' z q => ?_⟩
  · exact hq .non (.dat .non) H' B' S' z.endN (RepM.dat .non) Fr.dat q
  · obtain ⟨z1, rv, fr⟩ := z.end_ g
    exact hq v x H' B' S' z1 rv fr q
end
/-- the law's entry, with tables -/
theorem law_inMT {K : PySem.W.Frag} {T : Tbs} {sp : MSp} {H : Hp} {a : Addr} {ns : List Int} (hT : ∀ p ∈ T, H p.1 = some (.tbl #[])) (hS : SqL K H a (ns.map V.int)) (h : sp [.scr ns] (fun _ => none) (fun _ _ => False) (fun v _ => v = .dat (.bl true))) : spM K T sp [.ref a] H (fun v _ => v = .bl true) fun _ _ _ => False := by
  have k0 : Kp (fun b => if (∃ p ∈ T, p.1 = b) then none else H b) H := fun b o e => by
    have e : (if (∃ p ∈ T, p.1 = b) then none else H b) = some o := e
    split at e
    · cases e
    · exact ⟨fun _ => e, fun d => ⟨o, e, .refl d⟩⟩
  have nT : ∀ b, (∃ p ∈ T, p.1 = b) → ∀ o, H b = some o → o = .tbl #[] := fun b ⟨p, hp, e⟩ o h1 => by
    have h2 := hT p hp
    rw [e, h1] at h2
    exact Option.some.inj h2
  refine ⟨fun b => if (∃ p ∈ T, p.1 = b) then none else H b, [.scr ns], fun _ => none, fun _ _ => False, fun v _ => v = .dat (.bl true), k0, .cons (.scr ?_) .nil, (fun _ _ e => nomatch e), ⟨fun p hp => TabS.nil (hT p hp), fun p hp => if_pos ⟨p, hp, rfl⟩⟩, h, fun _ _ _ _ _ _ _ _ z => z.elim, fun v x H' B' S' z rv fr p => by subst p; cases rv.1; rfl⟩
  have keep : ∀ o, H a = some o → (∀ ps, o ≠ .tbl ps) → (if (∃ p ∈ T, p.1 = a) then none else H a) = some o := fun o e n => by
    split
    · rename_i q
      exact absurd (nT a q o e) (n _)
    · exact e
  rcases hS with (hS | ⟨o, hS⟩) | hS
  · exact .inl (.inl (keep _ hS fun _ z => nomatch z))
  · exact .inl (.inr ⟨o, keep _ hS fun _ z => nomatch z⟩)
  · exact .inr hS
end Ml
namespace Ml
open PySem PySem.Spec PyProof.Rows L2 Dl LamX
/-- the table of the code object at c -/
def tabC (K : PySem.W.Frag) (c : Addr) : Addr := match K.lookup c with
  | some ⟨_, _, .fields vs, _⟩ => (match (vs[11]? : Option Value) with
    | some (.ref P) => P
    | _ => 0)
  | _ => 0
theorem fun_mkC {K : PySem.W.Frag} {x : Str} {sm : Stmt} {f c : Addr} {oc : Value} {od an : Option Addr} {osl : Array (Option Value)} {kV doc pm ct : Value} (l : K.lookup f = some ⟨oc, od, .func (PySem.W.fnOf x x (defArgs sm) (defBody sm) (defScope sm) .none kV doc pm an (.ref c) ct), osl⟩)
    (hc : PySem.W.codeIn K (.ref c) x = true) : FunC K x x sm f (PySem.W.fnOf x x (defArgs sm) (defBody sm) (defScope sm) .none kV doc pm an (.ref c) ct) c := ⟨oc, od, kV, doc, pm, an, ct, osl, rfl, l, hc⟩
end Ml
namespace Dl
open PySem PySem.Spec PyProof.Rows L2
theorem z021 (P : Val → Prop) (l : List D) (y : D) : fCntD P (.lst l) y = ((flatD y = true ∧ l.all flatD = true) ∧ P (.dat (.int ((l.countP fun z => eqF z y : Nat) : Int)))) := rfl
theorem z022 (P : Val → Prop) (l : List D) (y : D) : fIdxD P (.lst l) y = ((flatD y = true ∧ l.all flatD = true) ∧ onO (l.findIdx? fun z => eqF z y) fun j => P (.dat (.int (j : Int)))) := rfl
theorem z023 (P : List D → Prop) (l : List D) : asL P (.lst l) = P l := rfl
theorem z024 (P : Str → Prop) (l : Str) : asS P (.str l) = P l := rfl
/-! ### == of data that is the same -/
mutual
theorem eqv_refl : ∀ d : PyData, d.canLay0 = true → PyData.eqv d d = true
  | .none, _ => by unfold PyData.eqv; rfl
  | .bool b, _ => by unfold PyData.eqv; simp
  | .int i, _ => by unfold PyData.eqv; simp
  | .str x, _ => by unfold PyData.eqv; simp
  | .list l, h => by unfold PyData.eqv; exact eqvAll_refl l (by simpa [PyData.canLay0] using h)
  | .tuple l, h => by unfold PyData.eqv; exact eqvAll_refl l (by simpa [PyData.canLay0] using h)
  | .dict _, h => by simp [PyData.canLay0] at h
theorem eqvAll_refl : ∀ l : List PyData, PyData.canLayAll0 l = true → PyData.eqvAll l l = true
  | [], _ => by unfold PyData.eqvAll; rfl
  | d :: r, h => by
    have h' : d.canLay0 = true ∧ PyData.canLayAll0 r = true := by simpa [PyData.canLayAll0] using h
    unfold PyData.eqvAll
    rw [eqv_refl d h'.1, eqvAll_refl r h'.2]
    rfl
end
/-- data that == may be asked of, at most n within one another -/
def Eo (n : Nat) (d : D) : Prop := okD d = true ∧ (py d).canLay0 = true ∧ (py d).depth ≤ n
theorem Eo.up {n m : Nat} {d : D} (h : Eo n d) (hm : n ≤ m) : Eo m d := ⟨h.1, h.2.1, Nat.le_trans h.2.2 hm⟩
theorem Eo.ok {n : Nat} {d : D} (h : Eo n d) (hn : n ≤ 64 := by omega) : eqOk d = true := by
  unfold eqOk SeqAt.shaped
  rw [Bool.and_eq_true, Bool.and_eq_true, decide_eq_true_iff]
  exact ⟨h.1, h.2.1, Nat.le_trans h.2.2 hn⟩
theorem Eo.refl {n : Nat} {d : D} (h : Eo n d) : eqd d d = true := eqv_refl _ h.2.1
theorem eo_non {n : Nat} : Eo n .non := ⟨rfl, by unfold py PyData.canLay0; rfl, by unfold py PyData.depth; exact Nat.zero_le _⟩
theorem eo_bl {n : Nat} (b : Bool) : Eo n (.bl b) := ⟨rfl, by unfold py PyData.canLay0; rfl, by unfold py PyData.depth; exact Nat.zero_le _⟩
theorem eo_int {n : Nat} (i : Int) : Eo n (.int i) := ⟨rfl, by unfold py PyData.canLay0; rfl, by unfold py PyData.depth; exact Nat.zero_le _⟩
theorem eo_str {n : Nat} {s : Str} (h : okS s) : Eo n (.str s) := ⟨rfl, okS_strOk h, by unfold py PyData.depth; exact Nat.zero_le _⟩
theorem eo_list {n : Nat} : ∀ {l : List D}, (∀ x ∈ l, Eo n x) → okL l = true ∧ PyData.canLayAll0 (pyL l) = true ∧ PyData.depthAll (pyL l) ≤ n
  | [], _ => ⟨rfl, by unfold pyL PyData.canLayAll0; rfl, by unfold pyL PyData.depthAll; exact Nat.zero_le _⟩
  | d :: r, h => by
    obtain ⟨a1, a2, a3⟩ := eo_list fun x hx => h x (List.mem_cons_of_mem _ hx)
    obtain ⟨b1, b2, b3⟩ := h d (List.mem_cons_self ..)
    refine ⟨?_, ?_, ?_⟩
    · show (okD d && okL r) = true
      rw [b1, a1]; rfl
    · show PyData.canLayAll0 (py d :: pyL r) = true
      unfold PyData.canLayAll0
      rw [b2, a2]; rfl
    · show max (py d).depth (PyData.depthAll (pyL r)) ≤ n
      omega
theorem eo_tup {n : Nat} {l : List D} (h : ∀ x ∈ l, Eo n x) : Eo (n + 1) (.tup l) := by
  obtain ⟨a1, a2, a3⟩ := eo_list h
  refine ⟨a1, ?_, ?_⟩
  · show PyData.canLay0 (.tuple (pyL l)) = true
    unfold PyData.canLay0
    exact a2
  · show PyData.depthAll (pyL l) + 1 ≤ n + 1
    omega
theorem eo_lst {n : Nat} {l : List D} (h : ∀ x ∈ l, Eo n x) : Eo (n + 1) (.lst l) := by
  obtain ⟨a1, a2, a3⟩ := eo_list h
  refine ⟨a1, ?_, ?_⟩
  · show PyData.canLay0 (.list (pyL l)) = true
    unfold PyData.canLay0
    exact a2
  · show PyData.depthAll (pyL l) + 1 ≤ n + 1
    omega
end Dl
namespace Ml
open PySem PySem.Spec PyProof.Rows L2 Dl LamX
section
variable {X : Cx} {T : Tbs} {W : WX}
/-- x.append(e), x a local's own list -/
def mAppend (i : Nat) (de : ME) : MS := fun xc E r S => match lk r i with
  | some (.tmp (.lst l)) => de xc r S fun x S1 => asD (fun d => l.length < sizeLine ∧ E.nx (st r i (some (.tmp (.lst (l ++ [d]))))) S1) x
  | _ => False
theorem mqs_append {i : Nat} {x : Str} {e : Expr} {de : ME} {p1 p2 p3 pos : Pos} (hx : PE X (.Name x p1) (tVar i)) (he : PE X e (LM X.K T W true de))
    (h : PE X (.Call (.Attribute (.Name x p1) "append" p2) [e] [] p3) (tBM X.K "list" rAppend (tVar i) (tCons (LM X.K T W true de) tNil)))
    (hs : swapsWith (.Call (.Attribute (.Name x p1) "append" p2) [e] [] p3) none pos.line X.env = pure false := by rfl) : PS X (.Expr (.Call (.Attribute (.Name x p1) "append" p2) [e] [] p3) pos) (LMS X.K T W (mAppend i de)) := by
  refine imS (ps_expr h hs) fun E s H ⟨B, r, S, xc, De, g, h, hx, nx, bk, ct, rt⟩ => ?_
  unfold mAppend at h
  split at h
  · rename_i l hl
    obtain ⟨p, hp, n, w⟩ := own_at g.en hl
    obtain ⟨vs, hv, rl⟩ := id w
    refine ⟨.ref p, hp, .inl ⟨rfl, vs, .inl (.inl hv)⟩, ?_⟩
    refine ⟨B, r, S, xc, _, g, h, fun cls d e H' B' S' z => hx cls d e s r H' B' S' (z.s g), fun v x H1 B1 S1 z rv fr q => ?_⟩
    cases x with
    | tmp c => exact q.elim
    | dat d =>
      obtain ⟨hlen, q⟩ := q
      have g1 := g.step z
      obtain ⟨p', hp', n1, w1⟩ := own_at g1.en hl
      rw [hp] at hp'
      cases hp'
      obtain ⟨vs1, hv1, rl1⟩ := id w1
      obtain ⟨en2, z2⟩ := own_write (o := .lst (vs1 ++ [v])) (c' := .lst (l ++ [d])) g1.kp g1.en hl hp n1 ⟨_, upd_same, rl1.append (.cons rv.1 .nil)⟩
      exact ⟨p, vs1, v, rfl, rfl, hv1, by rw [rl1.length]; exact hlen, nx _ _ _ _ S1 ((z.s g).trans g (z2.m g1 en2)) q⟩
  · exact h.elim
end
end Ml
/-! Ml10: cells are written; cells are forgotten. -/
namespace Ml
open PySem PySem.Spec PyProof.Rows L2 Dl LamX
section
variable {K : PySem.W.Frag} {T : Tbs} {B H B' H' : Hp} {S S' S1 S2 : Sto} {s : L2.St} {r : DEnv}
/-- a smaller store -/
def Less (S2 S1 : Sto) : Prop := ∀ a c, S2 a = some c → S1 a = some c
theorem Less.refl (S : Sto) : Less S S := fun _ _ h => h
theorem less_up {p : Addr} {c : Cell} (h : S p = none) : Less S (up S p c) := fun a d e => by
  have ne : a ≠ p := fun q => by subst q; rw [h] at e; cases e
  rw [up_ne ne]
  exact e
theorem less_none {a : Addr} (l : Less S2 S1) (h : S1 a = none) : S2 a = none := by
  cases e : S2 a with
  | none => rfl
  | some c => have q := l a c e; rw [h] at q; cases q
theorem SM.less (z : SM K T B H S B' H' S1) (l : Less S2 S1) : SM K T B H S B' H' S2 :=
  ⟨z.kp, z.sub, fun a o h t nb ms => let q := z.out a o h t nb ms; ⟨q.1, q.2.1, less_none l q.2.2⟩, z.ext, z.tab, z.tn, z.has, fun a c h => z.st a c (l a c h)⟩
theorem RepM.less {v : V} {x : Val} (h : RepM K T B H S1 v x) (l : Less S2 S1) : RepM K T B H S2 v x := ⟨h.1, fun p c e1 e2 => ⟨less_none l (h.2 p c e1 e2).1, (h.2 p c e1 e2).2⟩⟩
theorem cell_write {p : Addr} {c c' : Ct} {o : HO} (g : Good K T B H s r S) (h : S p = some (.ct c)) (w : RepC K B (upd H p o) p c') : SMS K T B H S s r B (upd H p o) (up S p (.ct c')) s r := by
  obtain ⟨o1, ho, pl, nb⟩ := g.cell h
  have ne : ∀ {a : Addr}, S a = none → a ≠ p := fun q e => by subst e; rw [h] at q; cases q
  have own : ¬ Owns s r p := g.dj p _ h
  refine ⟨.refl B, fun a u hu t na ms nw => ?_, fun a φ hu => ?_, fun a u hu => ?_, g.dj, ⟨g.kp.upd nb, ⟨g.en.len, fun i x hx => ?_, g.en.dis⟩, fun a d hd => ?_, fun a d hd => ?_, fun q hq => ?_, g.tn⟩⟩
  · rw [upd_ne (ne ms), up_ne (ne ms)]
    exact ⟨hu, na, ms, nw⟩
  · have n1 : a ≠ p := fun e => by subst e; rw [ho] at hu; cases hu; exact pl.2 φ rfl
    rw [upd_ne n1]
    exact hu
  · by_cases e : a = p
    · subst e; exact ⟨o, upd_same⟩
    · rw [upd_ne e]; exact ⟨u, hu⟩
  · obtain ⟨v, h1, h2⟩ := g.en.at_ i x hx
    refine ⟨v, h1, ?_⟩
    cases x with
    | dat d => exact h2
    | tmp c2 =>
      obtain ⟨q, rfl, n2, w2⟩ := h2
      have n1 : q ≠ p := fun e => by subst e; exact own ⟨i, c2, hx, h1⟩
      exact ⟨q, rfl, n2, w2.move (.refl B) fun u hu => by rw [upd_ne n1]; exact hu⟩
  · by_cases e : a = p
    · subst e
      rw [up_same] at hd
      cases hd
      exact ⟨nb, w⟩
    · rw [up_ne e] at hd
      obtain ⟨n, q⟩ := g.st a d hd
      exact ⟨n, q.move (.refl B) fun u hu => by rw [upd_ne e]; exact hu⟩
  · by_cases e : a = p
    · subst e; exact own
    · rw [up_ne e] at hd; exact g.dj a d hd
  · obtain ⟨ps, h1, h2, h3⟩ := g.tb q hq
    have n1 : q.1 ≠ p := fun e => pl.1 ⟨q.2, by rw [← e]; exact hq⟩
    refine ⟨ps, by rw [upd_ne n1]; exact h1, h2, fun pos cv hc => ?_⟩
    obtain ⟨c1, e1, e2⟩ := h3 pos cv hc
    have n2 : c1 ≠ p := fun e => by subst e; rw [ho] at e2; cases e2; exact pl.2 _ rfl
    exact ⟨c1, e1, by rw [upd_ne n2]; exact e2⟩
end
/-- the container that stands at a -/
def cellC (S : Sto) (p : Addr) (P : Ct → Prop) : Prop := match S p with
  | some (.ct c) => P c
  | _ => False
theorem cellC_elim {S : Sto} {p : Addr} {P : Ct → Prop} (h : cellC S p P) : ∃ c, S p = some (.ct c) ∧ P c := by
  unfold cellC at h
  split at h
  · rename_i c e
    exact ⟨c, e, h⟩
  · exact h.elim
theorem cellC_at {S : Sto} {p : Addr} {P : Ct → Prop} {c : Ct} (e : S p = some (.ct c)) (h : P c) : cellC S p P := by unfold cellC; rw [e]; exact h
section
variable {X : Cx} {T : Tbs} {W : WX}
/-- x[k] = e, x a cell -/
def mPutC (i : Nat) (dk de : ME) : MS := fun xc E r S => match lk r i with
  | some (.dat (.obj p)) => de xc r S fun x S1 => asDM (fun d S1 => dk xc r S1 fun y S2 => cellC S2 p fun c => putC d (fun c' => E.nx r (up S2 p (.ct c'))) c y.d) x S1
  | _ => False
theorem mqs_putC (i : Nat) {x : Str} {e j : Expr} {p1 pos pos' : Pos} {dk de : ME} {f2 : Bool} (hu : X.A.units + 1 < cLine) (hx : PE X (.Name x p1) (tVar i)) (hk : PE X j (LM X.K T W f2 dk)) (he : PE X e (LM X.K T W true de))
    (ha : ∀ v, assign (.Subscript (.Name x p1) j pos') X.env v = (do
      let ov ← holding [v] (eval (.Name x p1) X.env); let iv ← holding [v, ov] (eval j X.env)
      standAt pos'; holding [v, ov, iv] (setItem ov iv v); release [v, ov, iv] []) := by intro _; rfl)
    (hs : swapsWithSole [.Subscript (.Name x p1) j pos'] e pos.line X.env = pure false := by rfl) (hw : swappedStores [.Subscript (.Name x p1) j pos'] e X.env = pure none := by rfl)
    (h1 : (assignEach [.Subscript (.Name x p1) j pos'] X.env).map (·.2) = [assign (.Subscript (.Name x p1) j pos') X.env] := by rfl) :
    PS X (.Assign [.Subscript (.Name x p1) j pos'] e pos) (LMS X.K T W (mPutC i dk de)) := by
  refine imS (ps_asg he (pg_sub hx hk (set_own hu) ha) hs hw h1) fun E s H ⟨B, r, S, xc, De, g, h, hx, nx, bk, ct, rt⟩ => ?_
  unfold mPutC at h
  split at h
  · rename_i p hl
    obtain ⟨v0, hp, rp⟩ := g.at_ hl
    have ep : v0 = .ref p := by cases rp.1; rfl
    subst ep
    refine ⟨B, r, S, xc, _, g, h, fun cls d e H' B' S' z => hx cls d e s r H' B' S' (z.s g), fun v x H1 B1 S1 z1 rv fr q => ?_⟩
    cases x with
    | tmp c => exact q.elim
    | dat d =>
      have g1 := g.step z1
      refine ⟨.ref p, hp, B1, r, S1, xc, _, g1, q, fun cls d e H' B' S' z => hx cls d e s r H' B' S' ((z1.trans z).s g), fun y vy H2 B2 S2 z2 ry _ q2 => ?_⟩
      have z := z1.trans z2
      have g2 := g.step z
      have rv2 : Rep X.K B2 v d := Rep.mono z2.kp rv.1
      obtain ⟨c, hc, q2⟩ := cellC_elim q2
      obtain ⟨nb, w⟩ := g2.st p _ hc
      cases c with
      | lst l =>
        obtain ⟨vs, hv, rl⟩ := w
        unfold putC at q2
        split at q2
        · rename_i l2 j e1 e2
          cases e1
          obtain ⟨m, hm, q2⟩ := onO_elim q2
          have ey := rv_int ry.1 e2
          subst ey
          have z3 := cell_write (o := .lst (vs.set m v)) (c' := .lst (l.set m d)) g2 hc ⟨_, upd_same, rl.set rv2 m⟩
          exact .inl ⟨p, vs, j, m, rfl, rfl, hv, by rw [rl.length]; exact hm, nx _ _ _ _ _ (SMS.trans g (z.s g) z3) q2⟩
        · rename_i e1
          cases e1
        · exact q2.elim
      | dic l =>
        obtain ⟨kvs, hv, rl⟩ := w
        obtain ⟨kq, ek, hlen, q2⟩ := onO_elim (o := keyD vy.d) q2
        have ey := key_v ry.1 ek
        subst ey
        have z3 := cell_write (o := .dK (putK kvs kq v)) (c' := .dic (putD l kq d)) g2 hc ⟨_, upd_same, RepK.put rv2 rl⟩
        exact .inr ⟨p, _, rfl, DPut.k hv (by rw [RepK.length rl]; exact hlen), nx _ _ _ _ _ (SMS.trans g (z.s g) z3) q2⟩
  · exact h.elim
/-- what is no longer asked for is forgotten -/
def mFg (de : ME) : ME := fun xc r S P => de xc r S fun x S1 => ∃ S2, Less S2 S1 ∧ P x S2
theorem mq_fg {e : Expr} {de : ME} {f : Bool} (h : PE X e (LM X.K T W f de)) : PE X e (LM X.K T W f (mFg de)) := by
  refine imE h fun s H Q ⟨B, r, S, xc, P, g, h, hx, hq⟩ => ⟨B, r, S, xc, _, g, h, hx, fun v x H1 B1 S1 z1 rx fr q => ?_⟩
  obtain ⟨S2, l, q⟩ := q
  exact hq v x H1 B1 S2 (z1.less l) (rx.less l) fr q
end
end Ml
/-! Sl1: sets of texts: made of a list, counted, sorted. -/
namespace Sl
open PySem PySem.Spec PyProof.Rows L2
/-- a member's text -/
def kS (e : Int × Value) : Str := match e.2 with
  | .str x _ => x
  | _ => ""
def Txt1 (P : Program) (w : World) (e : Int × Value) : Prop := ∃ x t, e.2 = Value.str x t ∧ e.1 = (strKind P w).hash x
/-- the set of texts at a, ys its members in some order -/
def SetS (P : Program) (w : World) (h : Heap) (a : Addr) (ys : List Str) : Prop := ys.Nodup ∧ ∃ o es ep t, h.get? a = some o ∧ o.ExactSet ∧ o.data = .set es ep t ∧ (∀ e ∈ es.toList, Txt1 P w e) ∧ (es.toList.map kS).Perm ys ∧ es.size < scanBound ∧ t.fits es.size = true ∧ Ris t.place.toList ∧ (w.params.followText "set-order" = true ∨ t.led = true)
section
variable {P : Program} {w : World} {h h2 : Heap} {a : Addr} {ys : List Str}
theorem SetS.keep (R : SetS P w h a ys) (k : ∀ o, h.get? a = some o → h2.get? a = some o) : SetS P w h2 a ys := by
  obtain ⟨nd, o, es, ep, t, ho, r⟩ := R
  exact ⟨nd, o, es, ep, t, k o ho, r⟩
theorem texts_elems {l : List (Int × Value)} (g : ∀ e ∈ l, Txt1 P w e) : ElemsOf (strKind P w) l := fun e he => by
  obtain ⟨x, t, h1, h2⟩ := g e he
  refine ⟨⟨x, ?_, h2⟩, ?_⟩ <;> rw [h1]
  · exact strKind_is P w x t
  · rfl
theorem text_is {e : Int × Value} (g : Txt1 P w e) (x : Str) : (strKind P w).is x e.2 = true ↔ kS e = x := by
  obtain ⟨y, t, h1, _⟩ := g
  unfold kS
  rw [h1]
  show Value.isStrOf x (.str y t) = true ↔ y = x
  simp [Value.isStrOf]
theorem text_mem {l : List (Int × Value)} (g : ∀ e ∈ l, Txt1 P w e) (x : Str) : x ∈ l.map kS ↔ ∃ e ∈ l, (strKind P w).is x e.2 = true :=
  List.mem_map.trans ⟨fun ⟨e, he, q⟩ => ⟨e, he, (text_is (g e he) x).2 q⟩, fun ⟨e, he, q⟩ => ⟨e, he, (text_is (g e he) x).1 q⟩⟩
end
section
variable {P : Program} {w : World} {A : Around} {E : Value → Shared → Prop} {s : Shared} {a : Addr} {ys : List Str}
theorem putAt {h : Heap} {o : Obj} {es es2 : Array (Int × Value)} {ep : Nat} {t t2 : SetTable} (ho : h.get? a = some o) (hd : o.data = .set es ep t) : (h.update a (Obj.putSet es2 t2)).get? a = some { o with data := .set es2 (ep + 1) t2 } := by
  have e := putSet_of es2 t2 hd
  have q := Heap.get?_update_self (Obj.putSet es2 t2) ho (by rw [e]; rfl)
  exact q.trans (congrArg some e)
/-- behind the new member is laid -/
theorem lay_on {g : Bool → Sem Unit} (hg : ∀ (b : Bool) (s1 : Shared) (Q1 : Unit → Shared → Prop), Q1 () s1 → wpAny (model P w) A (g b) Q1 E s1) {o : Obj} {es : Array (Int × Value)} {ep : Nat} {t : SetTable} (ho : s.heap.get? a = some o) (hex : o.ExactSet) (hd : o.data = .set es ep t)
    {es1 : Array (Int × Value)} {t2 : SetTable} {zs : List Str} (nd : zs.Nodup) (g1 : ∀ e ∈ es1.toList, Txt1 P w e) (m1 : (es1.toList.map kS).Perm zs) (hb1 : es1.size < scanBound) (hf2 : t2.fits es1.size = true) (hr : Ris t2.place.toList) (hl : w.params.followText "set-order" = true ∨ t2.led = true) {wasDummy : Bool} {R : Option Bool → Shared → Prop}
    (hR : ∀ h2, Heap.SameBut a s.heap h2 → SetS P w h2 a zs → R (some true) { s with heap := h2 }) :
    wpAny (model P w) A (do storeSet a es1 t2; if (!wasDummy && t2.tooFull) = true then do { g (relayAll t2 es1 (SetTable.grown es1.size)).2.2; storeSet a (relayAll t2 es1 (SetTable.grown es1.size)).1 (relayAll t2 es1 (SetTable.grown es1.size)).2.1; pure (some true) } else pure (some true)) R E s := by
  have q1 := putAt (es2 := es1) (t2 := t2) ho hd
  have sb := Heap.SameBut.update s.heap a (Obj.putSet es1 t2)
  refine wpAny_bind (wpAny_storeSet_of ho hd ?_ (fits_of_scanBound hb1))
  by_cases full : (!wasDummy && t2.tooFull) = true
  · rw [if_pos full]
    have pm := relayAll_perm t2 es1 (SetTable.grown es1.size); have f3 := relayAll_fits t2 es1 (SetTable.grown es1.size)
    have r3 := relayAll_ris t2 es1 (SetTable.grown es1.size); have l3 := relayAll_led t2 es1 (SetTable.grown es1.size)
    generalize relayAll t2 es1 (SetTable.grown es1.size) = Z at pm f3 r3 l3 ⊢
    rcases Z with ⟨es2, t3, gave⟩
    dsimp only at pm f3 r3 l3 ⊢
    have sz : es2.size = es1.size := by
      have e := pm.length_eq
      rw [Array.length_toList, Array.length_toList] at e
      exact e
    have b2 : es2.size < scanBound := sz ▸ hb1
    refine wpAny_bind (hg _ _ _ (wpAny_bind (wpAny_storeSet_of q1 rfl ?_ (fits_of_scanBound b2))))
    have q2 := putAt (es2 := es2) (t2 := t3) q1 rfl
    exact wpAny_pure (hR _ (sb.trans (Heap.SameBut.update _ a _)) ⟨nd, _, es2, _, t3, q2, hex, rfl, fun e he => g1 e (pm.mem_iff.mp he), (pm.map kS).trans m1, b2, f3, r3, hl.imp id fun z => l3.trans z⟩)
  · rw [if_neg full]
    exact wpAny_pure (hR _ sb ⟨nd, _, es1, _, t2, q1, hex, rfl, g1, m1, hb1, hf2, hr, hl⟩)
/-- with x in it -/
def ins (ys : List Str) (x : Str) : List Str := if x ∈ ys then ys else ys ++ [x]
theorem ins_nodup {x : Str} (nd : ys.Nodup) : (ins ys x).Nodup := by
  unfold ins
  split
  · exact nd
  · rename_i n
    rw [List.nodup_append]
    exact ⟨nd, by simp, fun y hy z hz e => n (by rw [List.mem_singleton.mp hz] at e; rw [← e]; exact hy)⟩
theorem ins_len (ys : List Str) (x : Str) : (ins ys x).length ≤ ys.length + 1 := by
  unfold ins; split
  · omega
  · rw [List.length_append]; exact Nat.le_refl _
theorem add_hashed {x : Str} {tk : Tok} {Q : Bool → Shared → Prop} (R : SetS P w s.heap a ys) (room : ys.length + 1 < scanBound) (hQ : ∀ b h2, Heap.SameBut a s.heap h2 → SetS P w h2 a (ins ys x) → Q b { s with heap := h2 }) :
    wpAny (model P w) A (setAddHashed a (.str x tk) ((strKind P w).hash x)) Q E s := by
  obtain ⟨nd, o, es, ep, t, ho, hex, hd, g, pm0, hb, hf, hr, hl⟩ := R
  have key : (strKind P w).is x (.str x tk) = true := strKind_is P w x tk
  have scn : (Value.str x tk).scannable = true := rfl
  have el : ElemsOf (strKind P w) es.toList := texts_elems g
  unfold setAddHashed setAddHashedIn; refine wpAny_holding (wpAny_bind (wpAny_setState_of ho hd hf ?_)); dsimp only
  rw [byScan_of scn hb el]; simp only [↓reduceIte]; unfold setAddByScan
  refine wpAny_bind (wpAny_bind (wpAny_rule (wpAny_bind (wpAny_setScan_of key ho hd hf el ?_))))
  cases fi : List.findIdx? (fun e => (strKind P w).is x e.2) es.toList with
  | some j =>
    dsimp only
    obtain ⟨hj, pj, _⟩ := List.findIdx?_eq_some_iff_getElem.mp fi
    have hin : x ∈ ys := pm0.mem_iff.mp ((text_mem g x).2 ⟨es.toList[j], List.getElem_mem hj, pj⟩)
    have e : ins ys x = ys := if_pos hin
    exact wpAny_pure (wpAny_pure (hQ _ s.heap (Heap.SameBut.refl a s.heap) (by rw [e]; exact ⟨nd, o, es, ep, t, ho, hex, hd, g, pm0, hb, hf, hr, hl⟩)))
  | none =>
    dsimp only
    have out : x ∉ ys := fun z => by
      obtain ⟨e, he, q⟩ := (text_mem g x).1 (pm0.mem_iff.mpr z)
      have c := List.findIdx?_eq_none_iff.mp fi e he
      exact Bool.noConfusion (q.symm.trans c)
    have gw : ∀ (b : Bool) {s1 : Shared} {Q1 : Unit → Shared → Prop}, Q1 () s1 → wpAny (model P w) A (match b with | true => rule "set.scan.the-table-gave-way" | false => pure ()) Q1 E s1 := fun b s1 Q1 q => by
      cases b
      · exact wpAny_pure q
      · exact wpAny_rule q
    have pm := layNew_perm t es ((strKind P w).hash x) (.str x tk); have f1 := layNew_fits t es ((strKind P w).hash x) (.str x tk)
    have r1 := layNew_ris t es ((strKind P w).hash x) (.str x tk) hr; have l1 := layNew_led t es ((strKind P w).hash x) (.str x tk)
    generalize layNew t es ((strKind P w).hash x) (.str x tk) = Z at pm f1 r1 l1 ⊢
    rcases Z with ⟨es1, t1, wasDummy, gave⟩
    dsimp only at pm f1 r1 l1 ⊢
    rw [Array.toList_push] at pm
    have e : ins ys x = ys ++ [x] := if_neg out
    have pk : (es1.toList.map kS).Perm (ys ++ [x]) := by
      have q := pm.map kS
      rw [List.map_append] at q
      exact q.trans (pm0.append (List.Perm.refl _))
    have g1 : ∀ e ∈ es1.toList, Txt1 P w e := fun e he => by
      rcases List.mem_append.mp (pm.mem_iff.mp he) with z | z
      · exact g e z
      · rw [List.mem_singleton.mp z]; exact ⟨x, tk, rfl, rfl⟩
    have nd1 : (ys ++ [x]).Nodup := e ▸ ins_nodup nd
    have sz : es1.size = ys.length + 1 := by
      have q := pk.length_eq
      rw [List.length_map, Array.length_toList, List.length_append] at q
      exact q
    have b1 : es1.size < scanBound := by rw [sz]; exact room
    have led : w.params.followText "set-order" = true ∨ t1.led = true := hl.imp id fun z => l1.trans z
    have fin : ∀ h2, Heap.SameBut a s.heap h2 → SetS P w h2 a (ys ++ [x]) → Q true { s with heap := h2 } := fun h2 sb r => hQ true h2 sb (by rw [e]; exact r)
    have both : ∀ (b : Bool) (s1 : Shared) (Q1 : Unit → Shared → Prop) (r : String), Q1 () s1 → wpAny (model P w) A (match b with | true => rule r | false => pure ()) Q1 E s1 := fun b s1 Q1 r q => by
      cases b
      · exact wpAny_pure q
      · exact wpAny_rule q
    refine wpAny_bind (gw _ ?_)
    split
    · refine wpAny_bind ?_
      rw [hashByValue_scannable 8 scn]
      refine wpAny_pure (lay_on (zs := ys ++ [x]) ?_ ho hex hd nd1 g1 pk b1 ?_ ?_ ?_ ?_)
      · intro b s1 Q1 q
        cases b
        · exact wpAny_pure q
        · exact wpAny_rule q
      · first | (split <;> first | exact f1 | exact SetTable.fits_plain_off f1) | exact f1
      · first | (split <;> exact r1) | exact r1
      · first | (split <;> exact led) | exact led
      · intro h2 sb r; dsimp only; exact wpAny_pure (fin h2 sb r)
    · refine wpAny_bind (wpAny_pure ?_)
      simp only [↓reduceIte]
      refine lay_on (zs := ys ++ [x]) ?_ ho hex hd nd1 g1 pk b1 f1 r1 led ?_
      · intro b s1 Q1 q
        cases b
        · exact wpAny_pure q
        · exact wpAny_rule q
      · intro h2 sb r; dsimp only; exact wpAny_pure (fin h2 sb r)
end
end Sl
/-! Sl2: set(xs) of a list of texts; sorted(set), len(set). -/
namespace Sl
open PySem PySem.Spec PyProof.Rows L2
/-- the texts, each once, as they come -/
def uniq (ss : List Str) : List Str := ss.foldl ins []
theorem uniq_snoc (ss : List Str) (x : Str) : uniq (ss ++ [x]) = ins (uniq ss) x := by unfold uniq; rw [List.foldl_append]; rfl
theorem uniq_take {ss : List Str} {i : Nat} {x : Str} (h : ss[i]? = some x) : uniq (ss.take (i + 1)) = ins (uniq (ss.take i)) x := by rw [List.take_add_one, h]; exact uniq_snoc _ _
theorem fold_len : ∀ (ss acc : List Str), (ss.foldl ins acc).length ≤ acc.length + ss.length
  | [], acc => Nat.le_refl _
  | x :: r, acc => by
    have h1 := fold_len r (ins acc x)
    have h2 := ins_len acc x
    rw [List.foldl_cons, List.length_cons]
    omega
theorem uniq_len (ss : List Str) : (uniq ss).length ≤ ss.length := by have h := fold_len ss []; rw [List.length_nil, Nat.zero_add] at h; exact h
theorem ins_mem {ys : List Str} {x z : Str} : z ∈ ins ys x ↔ z ∈ ys ∨ z = x := by
  unfold ins
  split
  · rename_i h
    exact ⟨.inl, fun q => q.elim id fun e => e ▸ h⟩
  · rw [List.mem_append, List.mem_singleton]
theorem fold_mem {z : Str} : ∀ (ss acc : List Str), z ∈ ss.foldl ins acc ↔ z ∈ acc ∨ z ∈ ss
  | [], acc => by simp
  | x :: r, acc => by
    rw [List.foldl_cons, fold_mem r, ins_mem, List.mem_cons]
    exact ⟨fun h => by rcases h with (h | h) | h <;> simp [h], fun h => by rcases h with h | h | h <;> simp [h]⟩
theorem uniq_mem {z : Str} {ss : List Str} : z ∈ uniq ss ↔ z ∈ ss := by unfold uniq; rw [fold_mem]; simp
theorem fold_nodup : ∀ (ss acc : List Str), acc.Nodup → (ss.foldl ins acc).Nodup
  | [], _, h => h
  | _ :: r, _, h => fold_nodup r _ (ins_nodup h)
theorem uniq_nodup (ss : List Str) : (uniq ss).Nodup := fold_nodup ss [] List.nodup_nil
theorem uniq_lt {ss : List Str} : (uniq ss).length < ss.length ↔ ¬ ss.Nodup := by
  constructor
  · intro h nd
    have sub : ss ⊆ uniq ss := fun x hx => uniq_mem.mpr hx
    have := nd.length_le_of_subset sub
    omega
  · intro h
    rcases Nat.lt_or_ge (uniq ss).length ss.length with q | q
    · exact q
    · exfalso
      apply h
      have key : ∀ (l acc : List Str), acc.length + l.length ≤ (l.foldl ins acc).length → acc.Nodup → (acc ++ l).Nodup := by
        intro l
        induction l with
        | nil => intro acc _ nd; rw [List.append_nil]; exact nd
        | cons x r ih =>
          intro acc hl nd
          rw [List.foldl_cons, List.length_cons] at hl
          have h1 := fold_len r (ins acc x)
          have h2 := ins_len acc x
          have hx : x ∉ acc := fun hx => by
            have e : ins acc x = acc := if_pos hx
            rw [e] at h1 hl
            omega
          have e : ins acc x = acc ++ [x] := if_neg hx
          have q2 := ih (ins acc x) (by omega) (ins_nodup nd)
          rw [e, List.append_assoc] at q2
          exact q2
      have := key ss [] (by simpa [uniq] using q) List.nodup_nil
      simpa using this
section
variable {prog : Program} {w : World} {A : Around} {R : Result → Shared → Prop} {I : Addr} {fp wr : List Addr} {G : Array GenState → Array GenState → Prop} {n : Nat} {P : Nat → Value → Prop} {St : Nat → Shared → Prop}
theorem fill_set (W : WalksS prog w A.in1 I fp wr G n P St) (T : Addr) (hT : T ∉ fp) (ss : List Str) (hn : ss.length = n) (hval : ∀ i v, P i v → ∃ x t, ss[i]? = some x ∧ v = .str x t) (hb : n + 1 < scanBound) :
    ∀ (k i : Nat) (s : Shared), n - i = k → i ≤ n → St i s → SetS prog w s.heap T (uniq (ss.take i)) → (∀ s2, Moved (T :: wr) G s s2 → SetS prog w s2.heap T (uniq ss) → R (.ok (.ret .none)) s2) → codeAny (model prog w) A (.builtin "set.update.loop" ⟨[.ref T, .ref I], []⟩) R s := by
  have hTw : T ∉ wr := fun h => hT (W.sub _ h)
  have sub : ∀ b ∈ wr, b ∈ T :: wr := fun b h => List.mem_cons_of_mem _ h
  intro k
  induction k with
  | zero =>
    intro i s hk hi st hS hR
    obtain rfl : i = n := by omega
    refine codeAny_builtin F.entry_set_update_loop ?_
    rw [Around.under_plainId F.plain_set_update_loop _]; show wpAny _ A.in1 (pyNext (.ref I) >>= _) _ _ s
    refine wpAny_bind (W.done s _ _ st fun s2 hm => ?_); show wpAny _ A.in1 (ret Value.none) _ _ s2
    have e : ss.take i = ss := by rw [← hn, List.take_length]
    rw [e] at hS
    exact wpAny_pure (hR s2 (hm.mono sub) (hS.keep fun o ho => hm.heap T o hTw ho))
  | succ k ih =>
    intro i s hk hi st hS hR
    have lt : i < n := by omega
    refine codeAny_builtin F.entry_set_update_loop ?_
    rw [Around.under_plainId F.plain_set_update_loop _]; show wpAny _ A.in1 (pyNext (.ref I) >>= _) _ _ s
    refine wpAny_bind (W.item i s _ _ lt st fun v s2 hP st2 hm => ?_)
    obtain ⟨x, t, hx, rfl⟩ := hval i v hP
    have hS2 := hS.keep fun o ho => hm.heap T o hTw ho
    show wpAny _ A.in1 (holding [Value.str x t] (setAdd T (.str x t)) >>= _) _ _ s2
    refine wpAny_bind (wpAny_holding ?_); unfold setAdd; refine wpAny_holding ?_
    refine wpAny_bind ((strKind prog w).pyHash (k := x) (strKind_is _ _ _ _) ?_)
    have room : (uniq (ss.take i)).length + 1 < scanBound := by
      have h := uniq_len (ss.take i)
      rw [List.length_take] at h
      omega
    refine add_hashed (s := { s2 with toks := s2.toks + 1 }) hS2 room fun b h2 sb hS3 => ?_
    rw [← uniq_take hx] at hS3
    refine wpAny_pure ⟨plainId_quiet F.plain_set_update_loop _, ih (i + 1) _ (by omega) lt (W.frame _ s2 _ _ st2 (Nat.le_succ _) fun b hb o e => ?_) hS3 fun s3 hm3 hS4 => ?_⟩
    · exact (sb.2 b fun h : b = T => hT (h ▸ hb)).trans e
    · exact hR s3 (Moved.trans W.gtrans ((hm.mono sub).then_heap (Nat.le_succ _) fun b o hb e => (sb.2 b fun h : b = T => hb (h ▸ List.mem_cons_self)).trans e) hm3) hS4
end
section
variable {prog : Program} {w : World} {A : Around} {E : Value → Shared → Prop} {s : Shared}
/-- a new set, and what it is told of its order -/
theorem new_led (a : Value) {Q1 : Value → Shared → Prop} (h : Q1 (.ref s.heap.objs.size) { s with heap := s.heap.push { cls := .type "set", dict := none, data := .set #[] 0 (.fresh 0 0 (!w.params.followText "set-order")) } }) :
    codeAny (model prog w) A (.call (.builtin "set.__new__") ⟨[.type "set", a], []⟩) (wants Q1 E) s := by
  refine codeAny_of_tree ?_; show wpAny _ A.in1 (do checkBuiltinCall "set.__new__" ⟨[.type "set", a], []⟩; again (.builtin "set.__new__" ⟨[.type "set", a], []⟩)) _ _ s
  refine wpAny_bind (wpAny_of_eq (F.newCall_set_1 a) (wpAny_pure ⟨plainId_quiet F.plain_set_new _, codeAny_builtin F.entry_set_new ?_⟩))
  rw [Around.under_plainId F.plain_set_new _]; unfold Builtin.«set.__new__» Builtin.Frozenset.newClass
  have sub := sub_set_self
  rcases s with ⟨hp, g, d, tk, os⟩
  dsimp only
  wp_walk
  refine wpAny_askSetting (wpAny_pure ?_); dsimp only; simp only [newObj]
  exact wpAny_bind (wpAny_alloc (wpAny_pure (wpAny_pure h)))
theorem fresh_set {h : Heap} : SetS prog w (h.push { cls := .type "set", dict := none, data := .set #[] 0 (.fresh 0 0 (!w.params.followText "set-order")) }) h.objs.size [] :=
  ⟨List.nodup_nil, _, #[], 0, _, Heap.get?_push_size _ rfl, ⟨rfl, rfl, rfl⟩, rfl, (fun e he => by simp at he), (by simp), (by decide), (by rfl), List.Pairwise.nil, by
    show _ ∨ (!w.params.followText "set-order") = true
    cases w.params.followText "set-order" <;> first | exact .inr rfl | exact .inl rfl⟩
theorem strs_at : ∀ {vs : List Value} {ss : List Str}, StrsAre vs ss → ∀ (i : Nat) (v : Value), vs[i]? = some v → ∃ x t, ss[i]? = some x ∧ v = .str x t
  | _, _, .nil, i, v, h => by simp at h
  | _, _, .cons n t hr, 0, v, h => by simp at h; exact ⟨_, t, rfl, h.symm⟩
  | _, _, .cons n t hr, i + 1, v, h => by
    simp only [List.getElem?_cons_succ] at h
    exact strs_at hr i v h
theorem strs_len : ∀ {vs : List Value} {ss : List Str}, StrsAre vs ss → vs.length = ss.length
  | _, _, .nil => rfl
  | _, _, .cons _ _ r => congrArg (· + 1) (strs_len r)
set_option maxHeartbeats 8000000 in
theorem call_set {l : Addr} {items : Array Value} {ss : List Str} {Q : Value → Shared → Prop} (hh : A.handled = none) (hl : s.heap.IsList l items) (hi : StrsAre items.toList ss) (hb : items.size + 1 < scanBound)
    (h : ∀ (h2 : Heap) (tk : Nat), SetS prog w h2 s.heap.objs.size (uniq ss) → (∀ b o, b < s.heap.objs.size → s.heap.get? b = some o → h2.get? b = some o) → Q (.ref s.heap.objs.size) { s with heap := h2, toks := tk }) :
    wpAny (model prog w) A (call (.type "set") [.ref l]) Q E s := by
  obtain ⟨c, tl, hmro⟩ := F.called_set.mro
  have made := F.called_set.made; have sub := F.called_set.sub
  refine wpAny_call (codeAny_of_tree ?_); show wpAny _ _ (callAny (.type "set") _) _ _ _
  refine wpAny_pure ⟨Code.quiet_builtin _ (by decide +kernel), codeAny_builtin F.entry_type_call ?_⟩
  rw [Around.under_plain (weight_type_call_type "set" [.ref l] []) rfl]
  have n1 := F.called_set.notType; have n2 := F.called_set.canCreate; have n3 := F.typeCall_set_1 (.ref l)
  repeat (any_goals (first | assumption | wp_step))
  refine codeAny_mono (new_led (.ref l) (E := E) (Q1 := fun obj s1 => obj = .ref s.heap.objs.size ∧ s1 = { s with heap := s.heap.push { cls := .type "set", dict := none, data := .set #[] 0 (.fresh 0 0 (!w.params.followText "set-order")) } }) ⟨rfl, rfl⟩) fun r s1 hr => ?_
  have fs := fresh_set (prog := prog) (w := w) (h := s.heap)
  generalize hled : (!w.params.followText "set-order") = led at hr fs
  cases r with
  | error e => exact hr
  | ok fl =>
    cases fl with
    | ret obj =>
      obtain ⟨rfl, rfl⟩ := hr
      have isS : (s.heap.push { cls := .type "set", dict := none, data := .set #[] 0 (.fresh 0 0 led) }).get? s.heap.objs.size = some { cls := .type "set", dict := none, data := .set #[] 0 (.fresh 0 0 led) } := Heap.get?_push_size _ rfl
      have tyS : Shared.TypeIs { s with heap := s.heap.push { cls := .type "set", dict := none, data := .set #[] 0 (.fresh 0 0 led) } } (.ref s.heap.objs.size) "set" := ⟨_, isS, rfl⟩
      have i1 := F.called_set.init.lookup; have i2 := F.called_set.init.bind (.ref s.heap.objs.size)
      repeat (any_goals (first | assumption | wp_step))
      refine codeAny_mono (codeAny_call_builtin (R := wants (fun r s2 => r = .none ∧ ∃ h2 tk, s2 = { s with heap := h2, toks := tk } ∧ SetS prog w h2 s.heap.objs.size (uniq ss) ∧ ∀ b o, b < s.heap.objs.size → s.heap.get? b = some o → h2.get? b = some o) E) F.called_set.init.plain F.entry_set_init (check_set_init_1 tyS ?_)) fun r2 s2 hr2 => ?_
      · obtain ⟨⟨ocls, odict, odata, oslots⟩, hol, hcl, nl, hdl⟩ := hl
        simp only at hcl hdl
        subst hcl hdl
        have hol2 : (s.heap.push { cls := .type "set", dict := none, data := .set #[] 0 (.fresh 0 0 led) }).get? l = some { cls := .type "list", dict := odict, data := .seq items nl, slots := oslots } := Heap.get?_push_of_some _ hol
        have k1 := F.sub_list_set; have k2 := F.sub_list_frozenset
        have k3 : (Value.type "list" == Value.type "dict") = false := by decide
        have hl1 : (s.heap.push { cls := .type "set", dict := none, data := .set #[] 0 (.fresh 0 0 led) }).IsList l items := ⟨_, hol2, rfl, nl, rfl⟩
        unfold Builtin.«set.__init__» noKeywords Builtin.Frozenset.updateFrom
        generalize hPI : pyIter = PI
        wp_walk
        subst hPI
        refine wpAny_pyIter_list hl1 (wpAny_bind (wpAny_runValue ?_))
        have below : l < s.heap.objs.size := Heap.lt_size hol
        have hh3 : A.in1.in1.in1.handled = none := by simp [hh]
        have ne1 : l ≠ (s.heap.push { cls := .type "set", dict := none, data := .set #[] 0 (.fresh 0 0 led) }).objs.size := by rw [Heap.size_push]; exact Nat.ne_of_lt (Nat.lt_succ_of_lt below)
        have nf : s.heap.objs.size ∉ [(s.heap.push { cls := .type "set", dict := none, data := .set #[] 0 (.fresh 0 0 led) }).objs.size, l] := by
          rw [Heap.size_push]
          intro z
          rcases List.mem_cons.mp z with z | z
          · exact absurd z (Nat.ne_of_lt (Nat.lt_succ_self _))
          · exact absurd (List.mem_singleton.mp z) (Nat.ne_of_gt below)
        refine fill_set ((Walks.list hh3 _ l ne1 items).toS) s.heap.objs.size nf ss (by rw [← strs_len hi, Array.length_toList]) (fun i v hv => strs_at hi i v (by rw [Array.getElem?_toList]; exact hv)) hb (items.size - 0) 0 _ (by omega) (Nat.zero_le _)
          ⟨⟨_, Heap.get?_push_size _ rfl, rfl, rfl⟩, (hl1.push _)⟩ (fs.keep fun o ho => Heap.get?_push_of_some _ ho) fun s2 hm hS2 => ?_
        rcases s2 with ⟨h2, g2, d2, tk2, os2⟩
        have e1 : g2 = s.gens := hm.gens
        have e2 : d2 = s.drawn := hm.drawn
        have e3 : os2 = s.os := hm.os
        subst e1 e2 e3
        show wpAny _ _ _ _ _ _
        refine wpAny_pure ?_
        show wpAny _ _ (ret Value.none) _ _ _
        refine wpAny_pure ⟨rfl, h2, tk2, rfl, hS2, fun b o hb e => hm.heap b o (fun z => ?_) (Heap.get?_push_of_some _ (Heap.get?_push_of_some _ e))⟩
        rcases List.mem_cons.mp z with z | z
        · exact absurd z (Nat.ne_of_lt hb)
        · have z := List.mem_singleton.mp z
          rw [Heap.size_push] at z
          exact absurd z (Nat.ne_of_lt (Nat.lt_succ_of_lt hb))
      · cases r2 with
        | error e => exact hr2
        | ok fl2 =>
          cases fl2 with
          | ret r =>
            obtain ⟨rfl, h2, tk, rfl, hS2, hk⟩ := hr2
            repeat (any_goals (first | assumption | wp_step))
            exact h _ _ hS2 hk
          | _ => exact hr2.elim
    | _ => exact hr.elim
/-- sorted(set) -/
theorem sorted_set {a : Addr} {ys : List Str} {Q : Value → Shared → Prop} (R : SetS prog w s.heap a ys) (hh : A.handled = none)
    (hQ : ∀ s2 p (out : Array Value) (c : Nat) (zs : List Str), (∀ b o, s.heap.get? b = some o → s2.heap.get? b = some o) → s2.gens = s.gens → s2.os = s.os → s.heap.objs.size ≤ p → s2.heap.get? p = some (seqObj "list" out c) → StrsAre out.toList zs → zs.Perm ys → sortedS zs = true → Q (.ref p) s2) :
    wpAny (model prog w) A (call (.builtin "sorted") [.ref a]) Q E s := by
  obtain ⟨nd, o, es, ep, t, ho, hex, hd, g, pm0, hb, hf, hr, hl⟩ := R
  refine Calls.call_function_entry kind_sorted plain_sorted entry_sorted (args_sorted1 _) ?_
  unfold Builtin.«sorted»
  refine wpAny_bind (m := checkCount "sorted" 1 1 _) (wpAny_pure (wpAny_bind (collect_set (A := A.in1) hh ⟨o, ho, hex.1, hd⟩ hf hb hr hl fun s1 vs k1 hz g1 o1 pm => ?_)))
  have isS : StrsAre vs (vs.map fun v => kS (0, v)) := by
    have q : ∀ v ∈ vs, ∃ x tk, v = Value.str x tk := fun v hv => by
      obtain ⟨e, he, q⟩ := List.mem_map.mp (pm.mem_iff.mp hv)
      obtain ⟨x, tk, h1, _⟩ := g e he
      exact ⟨x, tk, by rw [← q]; exact h1⟩
    clear pm
    induction vs with
    | nil => exact .nil
    | cons v r ih =>
      obtain ⟨x, tk, rfl⟩ := q v (List.mem_cons_self ..)
      exact .cons x tk (ih fun u hu => q u (List.mem_cons_of_mem _ hu))
  have pk : (vs.map fun v => kS (0, v)).Perm ys := by
    have q := pm.map fun v => kS (0, v)
    rw [List.map_map] at q
    exact q.trans pm0
  have few : vs.length ≤ sizeLine := by
    rw [pm.length_eq.trans (List.length_map _), Array.length_toList]
    exact fits_of_scanBound hb
  refine wpAny_bind (wpAny_newList ?_ few)
  have isL : (s1.heap.push (seqObj "list" vs.toArray 0)).get? s1.heap.objs.size = some (seqObj "list" vs.toArray 0) := Heap.get?_push_size _ rfl
  refine wpAny_bind (wpAny_holding (wpAny_call_entry slot_list_sort ⟨_, isL, rfl⟩ entry_list_sort (list_sort_treeKAny strKind_oneLt isL isS.keysOf (fun v1 v2 rest e => keyKind_strs (by rw [← e]; exact isS)) few fun st' hp hs => ⟨_, rfl, ?_⟩) (args_list_sort _)))
  obtain ⟨zs, z1, z2, z3⟩ := sorted_out_str isS hp hs
  obtain ⟨c, hc⟩ := sortedHeap_at (vs := vs) (out := (arrOf st').map (·.2)) isL
  refine wpAny_pure ⟨_, rfl, hQ _ s1.heap.objs.size _ c zs (fun b u e => ?_) g1 o1 hz hc z1 (z2.trans pk) z3⟩
  have q := k1 b u e
  have lt := Heap.lt_size q
  show (sortedHeap (s1.heap.push (seqObj "list" vs.toArray 0)) s1.heap.objs.size vs _).get? b = some u
  rw [sortedHeap_old (Nat.ne_of_lt lt) (by rw [size_push']; exact Nat.lt_succ_of_lt lt)]
  exact Heap.get?_push_of_some _ q
end
end Sl
/-! Sl3: sets and sorted rows of texts, read by data. -/
namespace Sl
open PySem PySem.Spec PyProof.Rows L2
section
variable {prog : Program} {w : World} {A : Around} {E : Value → Shared → Prop} {s : Shared}
set_option maxHeartbeats 8000000 in
theorem call_setT {l : Addr} {items : Array Value} {ss : List Str} {Q : Value → Shared → Prop} (hh : A.handled = none) (hl : s.heap.IsTuple l items) (hi : StrsAre items.toList ss) (hb : items.size + 1 < scanBound)
    (h : ∀ (h2 : Heap) (tk : Nat), SetS prog w h2 s.heap.objs.size (uniq ss) → (∀ b o, b < s.heap.objs.size → s.heap.get? b = some o → h2.get? b = some o) → Q (.ref s.heap.objs.size) { s with heap := h2, toks := tk }) :
    wpAny (model prog w) A (call (.type "set") [.ref l]) Q E s := by
  obtain ⟨c, tl, hmro⟩ := F.called_set.mro
  have made := F.called_set.made; have sub := F.called_set.sub
  refine wpAny_call (codeAny_of_tree ?_); show wpAny _ _ (callAny (.type "set") _) _ _ _
  refine wpAny_pure ⟨Code.quiet_builtin _ (by decide +kernel), codeAny_builtin F.entry_type_call ?_⟩
  rw [Around.under_plain (weight_type_call_type "set" [.ref l] []) rfl]
  have n1 := F.called_set.notType; have n2 := F.called_set.canCreate; have n3 := F.typeCall_set_1 (.ref l)
  repeat (any_goals (first | assumption | wp_step))
  refine codeAny_mono (new_led (.ref l) (E := E) (Q1 := fun obj s1 => obj = .ref s.heap.objs.size ∧ s1 = { s with heap := s.heap.push { cls := .type "set", dict := none, data := .set #[] 0 (.fresh 0 0 (!w.params.followText "set-order")) } }) ⟨rfl, rfl⟩) fun r s1 hr => ?_
  have fs := fresh_set (prog := prog) (w := w) (h := s.heap)
  generalize hled : (!w.params.followText "set-order") = led at hr fs
  cases r with
  | error e => exact hr
  | ok fl =>
    cases fl with
    | ret obj =>
      obtain ⟨rfl, rfl⟩ := hr
      have isS : (s.heap.push { cls := .type "set", dict := none, data := .set #[] 0 (.fresh 0 0 led) }).get? s.heap.objs.size = some { cls := .type "set", dict := none, data := .set #[] 0 (.fresh 0 0 led) } := Heap.get?_push_size _ rfl
      have tyS : Shared.TypeIs { s with heap := s.heap.push { cls := .type "set", dict := none, data := .set #[] 0 (.fresh 0 0 led) } } (.ref s.heap.objs.size) "set" := ⟨_, isS, rfl⟩
      have i1 := F.called_set.init.lookup; have i2 := F.called_set.init.bind (.ref s.heap.objs.size)
      repeat (any_goals (first | assumption | wp_step))
      refine codeAny_mono (codeAny_call_builtin (R := wants (fun r s2 => r = .none ∧ ∃ h2 tk, s2 = { s with heap := h2, toks := tk } ∧ SetS prog w h2 s.heap.objs.size (uniq ss) ∧ ∀ b o, b < s.heap.objs.size → s.heap.get? b = some o → h2.get? b = some o) E) F.called_set.init.plain F.entry_set_init (check_set_init_1 tyS ?_)) fun r2 s2 hr2 => ?_
      · obtain ⟨⟨ocls, odict, odata, oslots⟩, hol, hcl, nl, hdl⟩ := hl
        simp only at hcl hdl
        subst hcl hdl
        have hol2 : (s.heap.push { cls := .type "set", dict := none, data := .set #[] 0 (.fresh 0 0 led) }).get? l = some { cls := .type "tuple", dict := odict, data := .seq items nl, slots := oslots } := Heap.get?_push_of_some _ hol
        have k1 := F.sub_tuple_set; have k2 := F.sub_tuple_frozenset
        have k3 : (Value.type "tuple" == Value.type "dict") = false := by decide
        have hl1 : (s.heap.push { cls := .type "set", dict := none, data := .set #[] 0 (.fresh 0 0 led) }).IsTuple l items := ⟨_, hol2, rfl, nl, rfl⟩
        unfold Builtin.«set.__init__» noKeywords Builtin.Frozenset.updateFrom
        generalize hPI : pyIter = PI
        wp_walk
        subst hPI
        refine wpAny_pyIter_tuple hl1 (wpAny_bind (wpAny_runValue ?_))
        have below : l < s.heap.objs.size := Heap.lt_size hol
        have hh3 : A.in1.in1.in1.handled = none := by simp [hh]
        have ne1 : l ≠ (s.heap.push { cls := .type "set", dict := none, data := .set #[] 0 (.fresh 0 0 led) }).objs.size := by rw [Heap.size_push]; exact Nat.ne_of_lt (Nat.lt_succ_of_lt below)
        have nf : s.heap.objs.size ∉ [(s.heap.push { cls := .type "set", dict := none, data := .set #[] 0 (.fresh 0 0 led) }).objs.size, l] := by
          rw [Heap.size_push]
          intro z
          rcases List.mem_cons.mp z with z | z
          · exact absurd z (Nat.ne_of_lt (Nat.lt_succ_self _))
          · exact absurd (List.mem_singleton.mp z) (Nat.ne_of_gt below)
        refine fill_set ((Walks.tuple hh3 _ l ne1 items).toS) s.heap.objs.size nf ss (by rw [← strs_len hi, Array.length_toList]) (fun i v hv => strs_at hi i v (by rw [Array.getElem?_toList]; exact hv)) hb (items.size - 0) 0 _ (by omega) (Nat.zero_le _)
          ⟨⟨_, Heap.get?_push_size _ rfl, rfl, rfl⟩, (hl1.push _)⟩ (fs.keep fun o ho => Heap.get?_push_of_some _ ho) fun s2 hm hS2 => ?_
        rcases s2 with ⟨h2, g2, d2, tk2, os2⟩
        have e1 : g2 = s.gens := hm.gens
        have e2 : d2 = s.drawn := hm.drawn
        have e3 : os2 = s.os := hm.os
        subst e1 e2 e3
        show wpAny _ _ _ _ _ _
        refine wpAny_pure ?_
        show wpAny _ _ (ret Value.none) _ _ _
        refine wpAny_pure ⟨rfl, h2, tk2, rfl, hS2, fun b o hb e => hm.heap b o (fun z => ?_) (Heap.get?_push_of_some _ (Heap.get?_push_of_some _ e))⟩
        rcases List.mem_cons.mp z with z | z
        · exact absurd z (Nat.ne_of_lt hb)
        · have z := List.mem_singleton.mp z
          rw [Heap.size_push] at z
          exact absurd z (Nat.ne_of_lt (Nat.lt_succ_of_lt hb))
      · cases r2 with
        | error e => exact hr2
        | ok fl2 =>
          cases fl2 with
          | ret r =>
            obtain ⟨rfl, h2, tk, rfl, hS2, hk⟩ := hr2
            repeat (any_goals (first | assumption | wp_step))
            exact h _ _ hS2 hk
          | _ => exact hr2.elim
    | _ => exact hr.elim
end
/-! ### one sorted row -/
theorem rising_all : ∀ (l : List Str) (p : Str), risingS p l = true → (p :: l).Pairwise (fun a b => a.cps.toList ≤ b.cps.toList)
  | [], p, _ => by simp
  | x :: r, p, h => by
    have h1 : (!ltCps x.cps.toList p.cps.toList && risingS x r) = true := h
    rw [Bool.and_eq_true, ltCps_eq] at h1
    have px : p.cps.toList ≤ x.cps.toList := by
      have q := h1.1
      simp only [Bool.not_eq_true', decide_eq_false_iff_not] at q
      exact q
    have ih := rising_all r x h1.2
    refine List.pairwise_cons.mpr ⟨fun y hy => ?_, ih⟩
    rcases List.mem_cons.mp hy with e | hy
    · rw [e]; exact px
    · exact List.le_trans px ((List.pairwise_cons.mp ih).1 y hy)
theorem sorted_all {l : List Str} (h : sortedS l = true) : l.Pairwise (fun a b => a.cps.toList ≤ b.cps.toList) := by
  cases l with
  | nil => exact .nil
  | cons x r => exact rising_all r x h
def leS (a b : Str) : Bool := !decide (b.cps.toList < a.cps.toList)
/-- the texts, rising -/
def srt (ss : List Str) : List Str := ss.mergeSort leS
theorem srt_perm (ss : List Str) : (srt ss).Perm ss := List.mergeSort_perm _ _
theorem leS_iff {a b : Str} : leS a b = true ↔ a.cps.toList ≤ b.cps.toList := by
  unfold leS
  simp only [Bool.not_eq_true', decide_eq_false_iff_not]
  exact Iff.rfl
theorem srt_pair (ss : List Str) : (srt ss).Pairwise (fun a b => a.cps.toList ≤ b.cps.toList) := by
  have h := List.pairwise_mergeSort (le := leS) (fun a b c h1 h2 => leS_iff.mpr (List.le_trans (leS_iff.mp h1) (leS_iff.mp h2))) (fun a b => by
    rcases List.le_total a.cps.toList b.cps.toList with h | h
    · rw [leS_iff.mpr h]; rfl
    · rw [leS_iff.mpr h, Bool.or_true]) ss
  exact h.imp fun q => leS_iff.mp q
theorem pair_eq {l m : List Str} (p : l.Perm m) (hl : l.Pairwise (fun a b => a.cps.toList ≤ b.cps.toList)) (hm : m.Pairwise (fun a b => a.cps.toList ≤ b.cps.toList)) : l = m :=
  List.Perm.eq_of_pairwise (le := fun a b : Str => a.cps.toList ≤ b.cps.toList) (fun a b _ _ h1 h2 => Str.ext' (Array.toList_inj.mp (List.le_antisymm h1 h2))) hl hm p
theorem srt_uniq {ys ss : List Str} (p : ys.Perm ss) (h : sortedS ys = true) : ys = srt ss := pair_eq (p.trans (srt_perm ss).symm) (sorted_all h) (srt_pair ss)
theorem srt_congr {ys ss : List Str} (p : ys.Perm ss) : srt ys = srt ss := pair_eq ((srt_perm ys).trans (p.trans (srt_perm ss).symm)) (srt_pair ys) (srt_pair ss)
theorem srt_mem {z : Str} {ss : List Str} : z ∈ srt ss ↔ z ∈ ss := (srt_perm ss).mem_iff
theorem srt_len (ss : List Str) : (srt ss).length = ss.length := (srt_perm ss).length_eq
theorem srt_nodup {ss : List Str} (h : ss.Nodup) : (srt ss).Nodup := (srt_perm ss).nodup_iff.mpr h
/-- of the same members, each once, the same row comes -/
theorem srt_set {ys ss : List Str} (h1 : ys.Nodup) (h2 : ss.Nodup) (h : ∀ z, z ∈ ys ↔ z ∈ ss) : srt ys = srt ss := srt_congr ((List.perm_ext_iff_of_nodup h1 h2).mpr h)
theorem srt_id {ss : List Str} (h : ss.Pairwise (fun a b => a.cps.toList ≤ b.cps.toList)) : srt ss = ss := pair_eq (srt_perm ss) (srt_pair ss) h
end Sl
namespace L2
open PySem PySem.Spec PyProof.Rows
/-- a set of texts -/
def SetX (P : Program) (w : World) (a : Addr) (ys : List Str) : HO := .ext fun h => Sl.SetS P w h a ys
section
variable {X : Cx}
/-- set(xs), xs a list or a tuple of texts -/
def rSetX (K : PySem.W.Frag) (P : Program) (w : World) : List V → Hp → VK → Prop := fun xs H Q => ∃ (l : Addr) (ss : List Str), xs = [V.ref l] ∧ (SqL K H l (ss.map V.str) ∨ SqT K H l (ss.map V.str)) ∧ ss.length + 1 < scanBound ∧
  ∀ a, H a = none → Q (.ref a) (upd H a (SetX P w a (Sl.uniq ss)))
theorem setX_new {s : Shared} {pins : List (Addr × Obj)} {σ : St} {H : Hp} {h2 : Heap} {tk : Nat} {ys : List Str} (I : Inv X pins σ H s) (R : Sl.SetS X.prog X.w h2 s.heap.objs.size ys)
    (k : ∀ b o, b < s.heap.objs.size → s.heap.get? b = some o → h2.get? b = some o) : Inv X pins σ (upd H s.heap.objs.size (SetX X.prog X.w s.heap.objs.size ys)) { s with heap := h2, toks := tk } := by
  refine I.laid (t' := tk) (fun b o e => k b o (Heap.lt_size e) e) (Nat.le_refl _) ⟨R, ?_, fun h h3 r kk => r.keep fun o q => kk o q⟩
  obtain ⟨_, o, es, ep, t, ho, _⟩ := R
  exact ⟨o, ho⟩
theorem cr_setX (hc : X.calm = true) : CallR X (.type "set") (rSetX X.K X.prog X.w) := by
  intro pins s σ H xs us Q I r h
  obtain ⟨l, ss, rfl, hl, hb, q⟩ := h
  rw [Vals.ref1 r]
  have hn : H s.heap.objs.size = none := I.hok.fresh (Nat.le_refl _)
  rcases hl with hl | hl
  · obtain ⟨its, rv, pl, hz⟩ := I.list hl
    have e : its.length = ss.length := by rw [← rv.length, List.length_map]
    exact Sl.call_set (prog := X.prog) (w := X.w) (I.ok.hd hc) pl.isList (by simpa using rv.strs) (by rw [List.size_toArray, e]; exact hb) fun h2 tk R k => ⟨.ref s.heap.objs.size, _, setX_new I R k, rfl, q _ hn⟩
  · obtain ⟨its, rv, pl, hz⟩ := I.tuple hl
    have e : its.length = ss.length := by rw [← rv.length, List.length_map]
    exact Sl.call_setT (prog := X.prog) (w := X.w) (I.ok.hd hc) pl (by simpa using rv.strs) (by rw [List.size_toArray, e]; exact hb) fun h2 tk R k => ⟨.ref s.heap.objs.size, _, setX_new I R k, rfl, q _ hn⟩
/-- sorted(set) -/
def rSortX (P : Program) (w : World) : List V → Hp → VK → Prop := fun vs H Q => ∃ (a : Addr) (ys : List Str), vs = [V.ref a] ∧ H a = some (SetX P w a ys) ∧
  ∀ (p : Addr), H p = none → Q (.ref p) (upd H p (.lst ((Sl.srt ys).map V.str)))
theorem cr_sortX (hc : X.calm = true) : CallR X (.builtin "sorted") (rSortX X.prog X.w) := by
  intro pins s σ H vs us Q I r h
  obtain ⟨a, ys, rfl, ha, q⟩ := h
  have R : Sl.SetS X.prog X.w s.heap a ys := (I.hok a _ ha).1
  rw [Vals.ref1 r]
  refine Sl.sorted_set R (I.ok.hd hc) fun s2 p out c zs k g o hp hg hi pm hs => ?_
  obtain rfl := Sl.srt_uniq pm hs
  have few : ys.length < scanBound := by
    obtain ⟨_, ob, es, ep, t, ho, _, _, _, pm0, hb, _⟩ := R
    have q := pm0.length_eq
    rw [List.length_map, Array.length_toList] at q
    rw [← q]
    exact hb
  have hlen : ((Sl.srt ys).map V.str).length ≤ sizeLine := by
    rw [List.length_map, Sl.srt_len]
    exact fits_of_scanBound few
  have hn : H p = none := I.hok.fresh hp
  have J : Inv X pins σ (upd H p (.lst ((Sl.srt ys).map V.str))) { s with heap := s2.heap, gens := s2.gens, drawn := s2.drawn, toks := s2.toks } :=
    I.call (ch := []) (Un.laid k hp hn) (I.hok.laid k hp ⟨hlen, out.toList, c, vals_of_strs hi, hg⟩) (by rw [g]; exact I.bare) (fun _ z => nomatch z)
  have e : s2 = { s with heap := s2.heap, gens := s2.gens, drawn := s2.drawn, toks := s2.toks } := by
    cases s2; cases s; cases o; rfl
  rw [e]
  exact ⟨.ref p, _, J, rfl, q p hn⟩
/-- len(set) -/
def rLenX (P : Program) (w : World) : List V → Hp → VK → Prop := fun vs H Q => ∃ (a : Addr) (ys : List Str), vs = [V.ref a] ∧ H a = some (SetX P w a ys) ∧ Q (.int ys.length) H
theorem cr_lenX : CallR X (.builtin "len") (rLenX X.prog X.w) := by
  intro pins s σ H vs us Q I r h
  obtain ⟨a, ys, rfl, ha, q⟩ := h
  have R : Sl.SetS X.prog X.w s.heap a ys := (I.hok a _ ha).1
  rw [Vals.ref1 r]
  obtain ⟨_, ob, es, ep, t, ho, hex, hd, _, pm0, hb, hf, _⟩ := R
  have e : es.size = ys.length := by
    have q := pm0.length_eq
    rw [List.length_map, Array.length_toList] at q
    exact q
  refine call_len_set ho hex hd hf ?_ ⟨.int ys.length, H, I.tok _, ⟨_, by rw [e]⟩, q⟩
  have h1 := fits_of_scanBound hb
  rw [sizeLine_eq] at h1
  omega
/-- sorted(xs), xs a list of texts -/
def rSortS (K : PySem.W.Frag) : List V → Hp → VK → Prop := fun vs H Q => ∃ (a : Addr) (ss : List Str), vs = [V.ref a] ∧ SqL K H a (ss.map V.str) ∧ ∀ p, H p = none → Q (.ref p) (upd H p (.lst ((Sl.srt ss).map V.str)))
theorem cr_sortS : CallR X (.builtin "sorted") (rSortS X.K) := by
  intro pins s σ H vs us Q I r h
  obtain ⟨a, ss, rfl, hs, q⟩ := h
  obtain ⟨its, rv, hl, hz⟩ := I.list hs
  rw [Vals.ref1 r]
  refine sorted_strsAny hl.isList rv.strs (by rw [← rv.length]; exact hz) fun out zs h1 pm h2 => ?_
  obtain rfl := Sl.srt_uniq pm h2
  obtain ⟨ep, he⟩ := sortedAll_at s.heap its out
  have hlen : ((Sl.srt ss).map V.str).length ≤ sizeLine := by
    rw [List.length_map, Sl.srt_len]
    rw [List.length_map] at hz
    exact hz
  exact ⟨.ref _, upd H (s.heap.objs.size + 1) (.lst ((Sl.srt ss).map V.str)), I.laid (t' := s.toks) (fun _ _ => sortedAll_old) (Nat.le_succ _) ⟨hlen, out.toList, ep, vals_of_strs h1, he⟩, rfl, q _ (I.hok.fresh (Nat.le_succ _))⟩
/-- sorted(d), d a dict of which the keys are texts -/
def rSortD : List V → Hp → VK → Prop := fun xs H Q => ∃ (a : Addr) (kvs : List (Key × V)) (ks : List Str), xs = [.ref a] ∧ Rd H a (.dK kvs) ∧ kvs.map (·.1) = ks.map Sum.inr ∧
  ∀ p, H p = none → Q (.ref p) (upd H p (.lst ((Sl.srt ks).map V.str)))
theorem cr_sortD (hcalm : X.calm = true) : CallR X (.builtin "sorted") rSortD := by
  intro pins s σ H xs us Q I r ⟨a, kvs, ks, ex, hd, hks, q⟩
  subst ex
  obtain ⟨u, eu, rx⟩ := vals1 r
  subst eu; cases rx
  obtain ⟨z, lo, vs, rel, dd⟩ := dk_rd I.hok hd
  obtain ⟨ep, hat⟩ := dd.dictAt
  have hkeys : vs.map (·.1) = ks.map Sum.inr := rel.keys.symm.trans hks
  have hl : vs.length = ks.length := by
    have e := congrArg List.length hkeys
    rwa [List.length_map, List.length_map] at e
  have h16 : vs.length ≤ sizeLine := by rw [← rel.length]; exact z
  refine Calls.call_function_entry kind_sorted plain_sorted entry_sorted (args_sorted1 _) ?_; unfold Builtin.«sorted»; refine wpAny_bind (m := checkCount "sorted" 1 1 _) (wpAny_pure ?_)
  refine wpAny_bind (PySem.W.kdu_collect (A := X.A.in1) (PySem.W.kdl_dict (knd := mixKind X.prog X.w) (kvs := vs) (ep := ep) lo) (I.ok.hd hcalm) hat h16 fun h2 tk acc hk hacc => ?_)
  have hal : acc.toList.length = ks.length := by rw [Array.length_toList, hacc.1, hl]
  have hS : StrsAre acc.toList ks := by
    refine L2.strs_at hal fun j v e => ?_
    obtain ⟨k, x, e1, e2⟩ := hacc.2 j v (by rw [← Array.getElem?_toList]; exact e)
    have e3 : (vs.map (·.1))[j]? = some k := (List.getElem?_map ..).trans (congrArg (Option.map (·.1)) e1)
    rw [hkeys, List.getElem?_map] at e3
    cases e4 : ks[j]? with
    | none => rw [e4] at e3; cases e3
    | some y =>
      rw [e4] at e3
      obtain rfl : Sum.inr y = k := Option.some.inj e3
      obtain ⟨t, ev⟩ := Value.isStrOf_shape (x := y) (v := v) e2
      exact ⟨y, t, rfl, ev⟩
  have I1 : Inv X pins σ H { s with heap := h2, toks := tk } := I.kept hk
  have few : acc.toList.length ≤ sizeLine := by rw [hal, ← hl]; exact h16
  refine wpAny_bind (wpAny_newList ?_ few)
  have isL : (h2.push (seqObj "list" acc.toList.toArray 0)).get? h2.objs.size = some (seqObj "list" acc.toList.toArray 0) := Heap.get?_push_size _ rfl
  show wpAny _ _ _ _ _ { s with heap := h2.push (seqObj "list" acc.toList.toArray 0), toks := tk }
  refine wpAny_bind (wpAny_holding (wpAny_call_entry slot_list_sort ⟨_, isL, rfl⟩ entry_list_sort (list_sort_treeKAny strKind_oneLt (s := { s with heap := h2.push (seqObj "list" acc.toList.toArray 0), toks := tk }) isL hS.keysOf (fun v1 v2 rest e => keyKind_strs (by rw [← e]; exact hS)) few fun st2 hp hs => ⟨_, rfl, ?_⟩) (args_list_sort _)))
  obtain ⟨ys, g1, g2, g3⟩ := sorted_out_str hS hp hs
  obtain rfl := Sl.srt_uniq g2 g3
  obtain ⟨c, hc⟩ := sortedHeap_at (vs := acc.toList) (out := (arrOf st2).map (·.2)) isL
  have hlen : ((Sl.srt ks).map V.str).length ≤ sizeLine := by rw [List.length_map, Sl.srt_len, ← hal]; exact few
  refine wpAny_pure ⟨_, rfl, .ref h2.objs.size, upd H h2.objs.size (.lst ((Sl.srt ks).map V.str)), I1.laid (t' := tk) (fun b u e => ?_) (Nat.le_refl _)
    (show ObjOk X.prog X.w _ _ _ (.lst ((Sl.srt ks).map V.str)) from ⟨hlen, ((arrOf st2).map (·.2)).toList, c, vals_of_strs g1, by rw [Array.toArray_toList]; exact hc⟩), rfl, q _ (I1.hok.fresh (Nat.le_refl _))⟩
  have lt : b < h2.objs.size := Heap.lt_size e
  rw [sortedHeap_old (Nat.ne_of_lt lt) (by rw [size_push']; exact Nat.lt_succ_of_lt lt)]
  exact Heap.get?_push_of_some _ e
end
end L2
/-! Sl4: sorted(xs), sorted(d), sorted(set(xs)), len(set(xs)): by data. -/
namespace Dl
open PySem PySem.Spec PyProof.Rows L2
/-- the texts of a row that holds nothing else -/
def txts : List D → Option (List Str)
  | [] => some []
  | .str x :: r => (txts r).map (x :: ·)
  | _ :: _ => none
def keysX : List (Key × D) → Option (List Str)
  | [] => some []
  | (.inr x, _) :: r => (keysX r).map (x :: ·)
  | _ :: _ => none
theorem txts_map : ∀ ss : List Str, txts (ss.map .str) = some ss
  | [] => rfl
  | x :: r => by
    show (txts (r.map .str)).map (x :: ·) = _
    rw [txts_map r]; rfl
theorem txts_get : ∀ {l : List D} {ss : List Str}, txts l = some ss → l = ss.map .str
  | [], ss, h => by cases h; rfl
  | d :: r, ss, h => by
    cases d with
    | str x =>
      have h1 : (txts r).map (x :: ·) = some ss := h
      cases e : txts r with
      | none => rw [e] at h1; cases h1
      | some t =>
        rw [e] at h1
        cases h1
        rw [txts_get e]
        rfl
    | _ => cases h
theorem rep_txts {K : PySem.W.Frag} {B : Hp} : ∀ {ss : List Str} {vs : List V}, RepL K B vs (ss.map .str) → vs = ss.map V.str
  | [], _, .nil => rfl
  | x :: r, _, .cons h t => by
    cases h
    rw [rep_txts t]; rfl
theorem repl_strs {K : PySem.W.Frag} {B : Hp} : ∀ ss : List Str, RepL K B (ss.map V.str) (ss.map .str)
  | [] => .nil
  | x :: r => .cons (.str x) (repl_strs r)
theorem rep_keysX {K : PySem.W.Frag} {B : Hp} : ∀ {l : List (Key × D)} {kvs : List (Key × V)} {ss : List Str}, RepK K B kvs l → keysX l = some ss → kvs.map (·.1) = ss.map Sum.inr
  | [], _, ss, .nil, h => by cases h; rfl
  | (k, d) :: r, _, ss, .cons _ t, h => by
    cases k with
    | inl i => cases h
    | inr x =>
      have h1 : (keysX r).map (x :: ·) = some ss := h
      cases e : keysX r with
      | none => rw [e] at h1; cases h1
      | some ts =>
        rw [e] at h1
        cases h1
        rw [List.map_cons, List.map_cons, rep_keysX t e]
def fSortD (P : Val → Prop) : D → Prop
  | .lst l => onO (txts l) fun ss => P (.tmp (.lst ((Sl.srt ss).map .str)))
  | .dic l => onO (keysX l) fun ss => P (.tmp (.lst ((Sl.srt ss).map .str)))
  | _ => False
def fSort : F1 := fun x P => fSortD P x.d
def setOfD (P : List Str → Prop) : D → Prop
  | .lst l => onO (txts l) fun ss => ss.length + 1 < scanBound ∧ P (Sl.uniq ss)
  | .tup l => onO (txts l) fun ss => ss.length + 1 < scanBound ∧ P (Sl.uniq ss)
  | _ => False
def fSortSet : F1 := fun x P => setOfD (fun ys => P (.tmp (.lst ((Sl.srt ys).map .str)))) x.d
def fLenSet : F1 := fun x P => setOfD (fun ys => P (.dat (.int (ys.length : Nat)))) x.d
section
variable {X : Cx} {W : WX}
def rSortA (K : PySem.W.Frag) : List V → Hp → VK → Prop := fun xs H Q => rSortS K xs H Q ∨ rSortD xs H Q
theorem cr_sort (hc : X.calm = true) : CallR X (.builtin "sorted") (rSortA X.K) := fun pins s σ H xs us Q I r h =>
  h.elim (cr_sortS pins s σ H xs us Q I r) (cr_sortD hc pins s σ H xs us Q I r)
theorem rel_sort {K : PySem.W.Frag} : RelC1 K (rSortA K) fSort := by
  intro B H x vx P Q k rx h a
  unfold fSort fSortD at h
  split at h
  · rename_i l e
    obtain ⟨ss, es, q⟩ := onO_elim h
    obtain rfl := txts_get es
    obtain ⟨p, vs, rfl, hp, rl⟩ := rv_lst k rx e
    obtain rfl := rep_txts rl
    exact .inl ⟨p, ss, rfl, .inl (.inl hp), fun q2 n => a.newL k (repl_strs _) q n⟩
  · rename_i l e
    obtain ⟨ss, es, q⟩ := onO_elim h
    obtain ⟨p, kvs, rfl, hp, rl⟩ := rv_dic k rx e
    exact .inr ⟨p, kvs, ss, rfl, .inl hp, rep_keysX rl es, fun q2 n => a.newL k (repl_strs _) q n⟩
  · exact h.elim
theorem set_way {K : PySem.W.Frag} {pr : Program} {w : World} {B H : Hp} {x : V} {vx : Val} {P : List Str → Prop} {Q : VK} (k : Kp B H) (rx : RepV K B H x vx) (h : setOfD P vx.d)
    (q : ∀ ss a, P (Sl.uniq ss) → H a = none → Q (.ref a) (upd H a (SetX pr w a (Sl.uniq ss)))) : rSetX K pr w [x] H Q := by
  unfold setOfD at h
  split at h
  · rename_i l e
    obtain ⟨ss, es, hb, p⟩ := onO_elim h
    obtain rfl := txts_get es
    obtain ⟨p1, vs, rfl, hp, rl⟩ := rv_lst k rx e
    obtain rfl := rep_txts rl
    exact ⟨p1, ss, rfl, .inl (.inl (.inl hp)), hb, fun a n => q ss a p n⟩
  · rename_i l e
    obtain ⟨ss, es, hb, p⟩ := onO_elim h
    obtain rfl := txts_get es
    obtain ⟨p1, vs, rfl, _, hp, rl⟩ := rv_tup k rx e
    obtain rfl := rep_txts rl
    exact ⟨p1, ss, rfl, .inr hp, hb, fun a n => q ss a p n⟩
  · exact h.elim
theorem rel_sortSet {K : PySem.W.Frag} {pr : Program} {w : World} : RelU K (fun x H Q => rSetX K pr w [x] H fun y H2 => rSortX pr w [y] H2 Q) fSortSet := by
  intro B H x vx P Q k rx h a
  refine set_way k rx h fun ss p q n => ⟨p, _, rfl, upd_same, fun p2 n2 => ?_⟩
  have k2 : Kp B (upd H p (SetX pr w p (Sl.uniq ss))) := k.upd (k.none n)
  have ne : p2 ≠ p := fun e => by subst e; rw [upd_same] at n2; cases n2
  have n3 : H p2 = none := by rw [upd_ne ne] at n2; exact n2
  exact a (.ref p2) (.tmp (.lst ((Sl.srt (Sl.uniq ss)).map .str))) _ B ((Step.tmp k n).trans (Step.tmp k2 n2)) ⟨p2, rfl, k.none n3, _, upd_same, repl_strs _⟩ (fun _ _ e _ => by cases e; exact n3) q
theorem rel_lenSet {K : PySem.W.Frag} {pr : Program} {w : World} : RelU K (fun x H Q => rSetX K pr w [x] H fun y H2 => rLenX pr w [y] H2 Q) fLenSet := by
  intro B H x vx P Q k rx h a
  refine set_way k rx h fun ss p q n => ⟨p, _, rfl, upd_same, ?_⟩
  exact a _ (.dat (.int ((Sl.uniq ss).length : Nat))) _ B (Step.tmp k n) (.int _) Fr.dat q
section
variable {x y : Str} {p p2 pos pos2 : Pos} {a : Expr} {fa : Bool}
abbrev SetC (x y : Str) (p p2 pos pos2 : Pos) (a : Expr) : Expr := .Call (.Name x p) [.Call (.Name y p2) [a] [] pos2] [] pos
theorem pe_setc {r : List V → Hp → VK → Prop} {te : TE} {id : String} (hr : CallR X (.builtin id) r) (hv : bootBuiltins x = some (.builtin id)) (hc : X.calm = true) (hg : Gl X x) (hm : X.mg x = none) (hg2 : Gl X y) (hm2 : X.mg y = none) (hy : bootBuiltins y = some (.type "set")) (ha : PE X a te)
    (hn : x ≠ "__name__" := by decide) (hdb : (x == ("__debug__" : Str)) = false := by decide) (hn2 : y ≠ "__name__" := by decide) (hdb2 : (y == ("__debug__" : Str)) = false := by decide)
    (he2 : starEach [a] X.env = (false, eval a X.env) :: starEach [] X.env := by rfl) (hpl2 : (backTo pos2 (starEach [] X.env)).any (·.1) = false := by rfl)
    (he : starEach [.Call (.Name y p2) [a] [] pos2] X.env = (false, eval (.Call (.Name y p2) [a] [] pos2) X.env) :: starEach [] X.env := by rfl) (hpl : (backTo pos (starEach [] X.env)).any (·.1) = false := by rfl) :
    PE X (SetC x y p p2 pos pos2 a) (tUn (fun x H Q => rSetX X.K X.prog X.w [x] H fun y H2 => r [y] H2 Q) te) :=
  pe_callB hr hg hm hv (pa_cons (pe_callTy (cr_setX hc) hg2 hm2 hy (pa_cons ha pa_nil he2) hn2 hdb2 he2 hpl2) pa_nil he) hn hdb he hpl
end
end
/-! ### a, b = a list of two -/
def gL2 (i j : Nat) : DG := fun d r P => match d with
  | .lst [a, b] => P (st (st r i (some (.dat a))) j (some (.dat b)))
  | _ => False
theorem gL2_mk {i j : Nat} {a b : D} {r : DEnv} {P : DEnv → Prop} (h : P (Dl.st (Dl.st r i (some (.dat a))) j (some (.dat b)))) : gL2 i j (.lst [a, b]) r P := h
theorem qg_l2 {X : Cx} {a b : Expr} {j0 : Nat} {pos : Pos} {vs : List Nat} {i j : Nat} (hc : X.calm = true) (mi : i ∈ vs) (mj : j ∈ vs) (ha : PG X a (gName i)) (hb : PG X b (gName j))
    (e1 : (assignEach [a, b] X.env).map (·.2) = assign a X.env :: (assignEach [b] X.env).map (·.2) := by rfl) (e2 : (assignEach [b] X.env).map (·.2) = assign b X.env :: (assignEach [] X.env).map (·.2) := by rfl)
    (e3 : (assignEach [a, b] X.env).length = 2 := by rfl) (e4 : (assignEach [a, b] X.env).findIdx? (·.1) = none := by rfl) : PG X (.Tuple [a, b] j0 pos) (LG X.K vs (gL2 i j)) := by
  refine imG (pg_lst hc (pgs_cons ha (pgs_cons hb pgs_nil e2) e1) e3 e4) fun v s H Q ⟨B, r, d, P, k, en, rd, p, hq⟩ => ?_
  unfold gL2 at p
  split at p
  · rename_i x y
    obtain ⟨q, vs2, rfl, hv, rl⟩ := rv_lst (x := .dat (.lst [x, y])) k rd rfl
    cases rl with
    | cons rx rl =>
      cases rl with
      | cons ry rl =>
        cases rl
        obtain ⟨n1, o1⟩ := setD (i := i) en rx
        obtain ⟨n2, o2⟩ := setD (i := j) n1 ry
        refine ⟨_, _, rfl, .inl (.inl hv), rfl, _, _, rfl, _, _, rfl, rfl, hq _ _ n2 ?_ (fun a o => o1 a (o2 a o)) p⟩
        rw [wipe_set mj, wipe_set mi]
  · exact p.elim
theorem z031 (P : Val → Prop) (l : List D) : fSortD P (.lst l) = onO (txts l) fun ss => P (.tmp (.lst ((Sl.srt ss).map .str))) := rfl
theorem z032 (P : Val → Prop) (l : List (Key × D)) : fSortD P (.dic l) = onO (keysX l) fun ss => P (.tmp (.lst ((Sl.srt ss).map .str))) := rfl
theorem z033 (P : List Str → Prop) (l : List D) : setOfD P (.lst l) = onO (txts l) fun ss => ss.length + 1 < scanBound ∧ P (Sl.uniq ss) := rfl
theorem z034 (P : List Str → Prop) (l : List D) : setOfD P (.tup l) = onO (txts l) fun ss => ss.length + 1 < scanBound ∧ P (Sl.uniq ss) := rfl
end Dl
/-! Sl5: max(xs, default=d) of ints; x = [..] of a plain local. -/
namespace L2
open PySem PySem.Spec PyProof.Rows
def maxL (d : Int) : List Int → Int
  | [] => d
  | n :: r => r.foldl max n
def rMaxDef (K : PySem.W.Frag) : List V → List V → Hp → VK → Prop := fun vs zs H Q => ∃ (a : Addr) (ns : List Int) (d : Int), vs = [V.ref a] ∧ zs = [V.int d] ∧ SqL K H a (ns.map V.int) ∧ Q (.int (maxL d ns)) H
theorem depth_ints : ∀ ns : List Int, PyData.depthAll (ns.map .int) ≤ 1
  | [] => by simp [PyData.depthAll]
  | n :: r => by
    have h := depth_ints r
    rw [List.map_cons]
    show max (PyData.depth (.int n)) (PyData.depthAll (r.map .int)) ≤ 1
    have : PyData.depth (.int n) ≤ 1 := by simp [PyData.depth]
    omega
section
variable {X : Cx}
theorem cr_maxDef (hc : X.calm = true) (hu : X.A.units + 64 < cLine) : CallRK X (.builtin "max") [Str.ofString "default"] (rMaxDef X.K) := by
  intro pins s σ H vs zs us ws Q I r rz h
  obtain ⟨a, ns, d, rfl, rfl, hs, q⟩ := h
  obtain rfl := Vals.ref1 r
  obtain ⟨w1, rfl, e1⟩ := vals1 rz
  obtain ⟨its, rv, hl, hz⟩ := I.list hs
  have hi := rv.ints
  have rd := IntsAre.reads s.heap hi
  refine PySem.W.max_list_default (I.ok.hd hc) hl.isList (by simpa using rd) ⟨fun x hx y hy => ?_, fun x hx => ?_⟩ (by have := depth_ints ns; omega) (fun e h2 tk k => ?_) (fun y ys i v h2 tk bs e hv rx k => ?_)
  · obtain ⟨n, _, rfl⟩ := List.mem_map.mp hx
    obtain ⟨m, _, rfl⟩ := List.mem_map.mp hy
    rfl
  · obtain ⟨n, _, rfl⟩ := List.mem_map.mp hx
    exact fun z => nomatch z
  · have e2 : ns = [] := List.map_eq_nil_iff.mp e
    subst e2
    exact ⟨.int d, H, I.kept k, e1, q⟩
  · cases ns with
    | nil => cases e
    | cons n r =>
      rw [List.map_cons] at e
      cases e
      rw [PySem.W.maxD_ints] at rx
      cases rx
      exact ⟨.int _, H, I.kept k, ⟨_, rfl⟩, q⟩
end
end L2
namespace Dl
open PySem PySem.Spec PyProof.Rows L2
def fMaxDefD (d : Int) (P : Val → Prop) : D → Prop
  | .lst l => onO (intsOf l) fun ns => P (.dat (.int (maxL d ns)))
  | _ => False
def fMaxDef (d : Int) : F1 := fun x P => fMaxDefD d P x.d
theorem rel_maxDef {K : PySem.W.Frag} {d : Int} : RelU K (fun x H Q => rMaxDef K [x] [.int d] H Q) (fMaxDef d) := by
  intro B H x vx P Q k rx h a
  unfold fMaxDef fMaxDefD at h
  split at h
  · rename_i l e
    obtain ⟨ns, es, q⟩ := onO_elim h
    obtain ⟨p, vs, rfl, hp, rl⟩ := rv_lst k rx e
    obtain rfl := ints_rep rl es
    exact ⟨p, ns, d, rfl, rfl, .inl (.inl hp), a.dat k (.int _) q⟩
  · exact h.elim
theorem z041 (d : Int) (P : Val → Prop) (l : List D) : fMaxDefD d P (.lst l) = onO (intsOf l) fun ns => P (.dat (.int (maxL d ns))) := rfl
theorem q_maxDef {X : Cx} {W : WX} {x : Str} {p pos kp cp : Pos} {j : Nat} {a : Expr} {d : Int} {da : DE} {fa : Bool} (hc : X.calm = true) (hu : X.A.units + 64 < cLine) (hg : Gl X x) (hm : X.mg x = none) (hv : bootBuiltins x = some (.builtin "max")) (ha : PE X a (L X.K W fa da))
    (hn : x ≠ "__name__" := by decide) (hdb : (x == ("__debug__" : Str)) = false := by decide)
    (he : backTo pos (starEach [a] X.env) = (false, eval a X.env) :: backTo pos (starEach [] X.env) := by rfl) (he0 : starEach [a] X.env = (false, eval a X.env) :: starEach [] X.env := by rfl) (hpl : (backTo pos (starEach [a] X.env)).any (·.1) = false := by rfl)
    (h1 : (backToKw pos (keywordEach [⟨some "default", .Constant (.int d) j cp, kp⟩] X.env)).all (·.1.isSome) = true := by rfl) (h2 : (backToKw pos (keywordEach [⟨some "default", .Constant (.int d) j cp, kp⟩] X.env)).any (·.1.isNone) = false := by rfl)
    (h3 : (backToKw pos (keywordEach [⟨some "default", .Constant (.int d) j cp, kp⟩] X.env)).filterMap (·.1) = [Str.ofString "default"] := by rfl) :
    PE X (.Call (.Name x p) [a] [⟨some "default", .Constant (.int d) j cp, kp⟩] pos) (L X.K W true (dUn (fMaxDef d) da)) :=
  imE (pe_callBK (cr_maxDef hc hu) hg hm hv (pa_cons ha pa_nil he0) (pk_cons pe_int pk_nil) hn hdb he hpl h1 h2 h3) (l_un rel_maxDef)
end Dl
namespace Dl
open PySem PySem.Spec PyProof.Rows L2
theorem qs_setLc {X : Cx} {W : WX} {i : Nat} {y : Str} {py : Pos} {elt tg iter : Expr} {ifs : List Expr} {scope : Scope} {own : List (Str × Nat)} {pos spos : Pos} {di : DI} {dg : DG} {cond : DT} {de : DE} (hc : X.calm = true) (hN : X.N.Nodup) (hy : X.N[i]? = some y) (hyl : X.env.scope.names.lookup y = some .local)
    (hsw : swapsWith (.ListComp elt [⟨tg, iter, ifs, 0⟩] scope pos) (some (.Name y py)) spos.line X.env = pure true) (hi : PI X tg iter (LI X.K W di)) (ok : BlkOk X.N X.env.scope scope own)
    (hg : ∀ (s : Shared) (H : Hp) (C : Addr) (cl : List (Str × Addr)) (fp : List Addr), PG (X.blk s H scope (compEnvC scope cl C X.env) fp) tg (LG X.K (own.map (·.2)) dg)) (ht : ∀ (s : Shared) (H : Hp) (C : Addr) (cl : List (Str × Addr)) (fp : List Addr), PTs (X.blk s H scope (compEnvC scope cl C X.env) fp) ifs (LT X.K W0 cond))
    (he : ∀ (s : Shared) (H : Hp) (C : Addr) (cl : List (Str × Addr)) (fp : List Addr), PE (X.blk s H scope (compEnvC scope cl C X.env) fp) elt (L X.K W0 true de)) (hs : ∀ x, foldedSetIterable iter X.env x = pure x := by intro _; rfl) :
    PS X (.Assign [.Name y py] (.ListComp elt [⟨tg, iter, ifs, 0⟩] scope pos) spos) (LS X.K W (dSet i (dLc di dg cond de (own.map (·.2))))) :=
  imS (ps_setLc hc hN hy hyl hsw hi ok hg ht he hs) fun E s H ⟨B, r, xc, De, k, en, h, hx, nx, bk, ct, rt⟩ => l_lc s H _ ⟨B, r, xc, _, k, en, h, fun cls d e H' B' z => hx cls d e s r H' B' z.s (en.step z), fun v x H' B' z rv fr p => nx _ _ H' B' (.set z (fr rfl)) (en.setN z rv (fr rfl)) p⟩
end Dl
namespace Ml
open PySem PySem.Spec PyProof.Rows L2 Dl LamX
theorem mqs_setLc {X : Cx} {T : Tbs} {W : WX} {i : Nat} {y : Str} {py : Pos} {elt tg iter : Expr} {ifs : List Expr} {scope : Scope} {own : List (Str × Nat)} {pos spos : Pos} {di : MI} {dg : DG} {cond : MT} {de : ME} (hc : X.calm = true) (hN : X.N.Nodup) (hy : X.N[i]? = some y) (hyl : X.env.scope.names.lookup y = some .local)
    (hsw : swapsWith (.ListComp elt [⟨tg, iter, ifs, 0⟩] scope pos) (some (.Name y py)) spos.line X.env = pure true) (hi : PI X tg iter (LMI X.K T W di)) (ok : BlkOk X.N X.env.scope scope own)
    (hg : ∀ (s : Shared) (H : Hp) (C : Addr) (cl : List (Str × Addr)) (fp : List Addr), PG (X.blk s H scope (compEnvC scope cl C X.env) fp) tg (LG X.K (own.map (·.2)) dg)) (ht : ∀ (s : Shared) (H : Hp) (C : Addr) (cl : List (Str × Addr)) (fp : List Addr), PTs (X.blk s H scope (compEnvC scope cl C X.env) fp) ifs (LMT X.K T W0 cond))
    (he : ∀ (s : Shared) (H : Hp) (C : Addr) (cl : List (Str × Addr)) (fp : List Addr), PE (X.blk s H scope (compEnvC scope cl C X.env) fp) elt (LM X.K T W0 true de)) (hs : ∀ x, foldedSetIterable iter X.env x = pure x := by intro _; rfl) :
    PS X (.Assign [.Name y py] (.ListComp elt [⟨tg, iter, ifs, 0⟩] scope pos) spos) (LMS X.K T W (mSet i (mLc di dg cond de (own.map (·.2))))) :=
  imS (ps_setLc hc hN hy hyl hsw hi ok hg ht he hs) fun E s H ⟨B, r, S, xc, De, g, h, hx, nx, bk, ct, rt⟩ => lm_lc s H _ ⟨B, r, S, xc, _, g, h, fun cls d e H' B' S' z => hx cls d e s r H' B' S' (z.s g), fun v x H' B' S' z rv fr p => nx _ _ H' B' S' (.set g z rv (fr rfl)) p⟩
end Ml
/-! Sl6: k in d, d[k] of dicts, by data. -/
namespace L2
open PySem PySem.Spec PyProof.Rows
section
variable {X : Cx}
def rInDk (neg : Bool) : R2 := fun x y H Q => ∃ a o, y = .ref a ∧ DGet H a x o ∧ Q (.bl (if neg then !o.isSome else o.isSome)) H
theorem op_inDk (hu : X.A.units + 1 < cLine) : OpR X (compareOp .In) (rInDk false) := by
  intro pins s σ H x y v u Q I rx ry ⟨a, o, e, g, q⟩
  subst e
  obtain rfl : u = Value.ref a := ry
  exact d_in hu I g rx fun s3 I3 => ⟨.bl o.isSome, H, I3, rfl, q⟩
theorem op_ninDk (hu : X.A.units + 1 < cLine) : OpR X (compareOp .NotIn) (rInDk true) := by
  intro pins s σ H x y v u Q I rx ry ⟨a, o, e, g, q⟩
  subst e
  obtain rfl : u = Value.ref a := ry
  exact d_notIn hu I g rx fun s3 I3 => ⟨.bl (!o.isSome), H, I3, rfl, q⟩
def rIxDk : R2 := fun x y H Q => ∃ a v, x = .ref a ∧ DGet H a y (some v) ∧ Q v H
theorem ix_dk (hu : X.A.units + 1 < cLine) : IxR X rIxDk := by
  intro value slice pins s σ H x y v u Q I rx ry h hs
  obtain ⟨a, w, e, g, q⟩ := h
  subst e
  obtain rfl : v = Value.ref a := rx
  exact tail_any (dict_typeIs I g) slot_dict_getitem.lookup (d_getItem hu I g ry fun w2 s3 I3 rw2 => ⟨w, H, I3, rw2, q⟩) hs
end
end L2
namespace Dl
open PySem PySem.Spec PyProof.Rows L2
def fInK (neg : Bool) : F2 := fun x y P => asDic (fun kds => onO (keyD x.d) fun q => P (.dat (.bl (if neg then !(valD kds q).isSome else (valD kds q).isSome)))) y.d
def fIxK : F2 := fun x y P => asDic (fun kds => onO (keyD y.d) fun q => onO (valD kds q) fun d => P (.dat d)) x.d
theorem rel_inK {K : PySem.W.Frag} {neg : Bool} : RelR K (rInDk neg) (fInK neg) := by
  intro B H x y vx vy P Q k rx ry h a
  obtain ⟨kds, ed, h⟩ := asDic_elim h
  obtain ⟨p, kvs, rfl, hv, rk⟩ := rv_dic k ry ed
  obtain ⟨q, ek, h⟩ := onO_elim h
  have ey := key_v rx ek
  subst ey
  cases ev : valD kds q with
  | some d =>
    rw [ev] at h
    obtain ⟨v, e1, r1⟩ := rk.val ev
    exact ⟨p, some v, rfl, by rw [← e1]; exact DGet.k hv, a.dat k (.bl _) h⟩
  | none =>
    rw [ev] at h
    exact ⟨p, none, rfl, by rw [← rk.val_none ev]; exact DGet.k hv, a.dat k (.bl _) h⟩
theorem rel_ixK {K : PySem.W.Frag} : RelR K rIxDk fIxK := by
  intro B H x y vx vy P Q k rx ry h a
  obtain ⟨kds, ed, h⟩ := asDic_elim h
  obtain ⟨p, kvs, rfl, hv, rk⟩ := rv_dic k rx ed
  obtain ⟨q, ek, h⟩ := onO_elim h
  have ey := key_v ry ek
  subst ey
  obtain ⟨d, ev, h⟩ := onO_elim h
  obtain ⟨v, e1, r1⟩ := rk.val ev
  exact ⟨p, v, rfl, by rw [← e1]; exact DGet.k hv, a.dat k r1 h⟩
theorem z051 (P : List (Key × D) → Prop) (l : List (Key × D)) : asDic P (.dic l) = P l := rfl
theorem z052 (i : Int) : keyD (.int i) = some (.inl i) := rfl
theorem z053 (i : Str) : keyD (.str i) = some (.inr i) := rfl
end Dl
/-! Sl7: == and != of two dicts of the same data. -/
namespace L2
open PySem PySem.Spec PyProof.Rows
/-- the same data twice, that may be compared -/
def SameD (K : PySem.W.Frag) (H : Hp) (v u : V) : Prop := ∃ d, Dp K H v d ∧ Dp K H u d ∧ d.canLay0 = true ∧ d.depth ≤ 60 ∧ PyData.eqv d d = true
section
variable {X : Cx} {pins : List (Addr × Obj)} {σ : St} {H : Hp} {s : Shared}
theorem hits_same (I : Inv X pins σ H s) {A : Around} (hu : A.units + 60 < cLine) {ls ks : List (Key × V)} {vb va : List (Key × Value)} (rb : KV ls vb) (ra : KV ks va) :
    (∀ p ∈ ks, ∃ u, valV ls p.1 = some u ∧ SameD X.K H p.2 u) → PySem.W.KeqHits A s vb va true := by
  unfold KV at ra
  induction ra with
  | nil => exact fun _ => .nil
  | @cons p q ps qs h t k =>
    intro hp
    obtain ⟨u, e, d, d1, d2, cl, dp, ev⟩ := hp p List.mem_cons_self
    have rr : RelO (some u) (valueAt vb p.1) := e ▸ rb.val p.1
    obtain ⟨y, hy, ry⟩ := rr.some_of
    obtain ⟨key, v⟩ := q
    have h1 : p.1 = key := h.1
    rw [h1] at hy
    obtain ⟨as, r1⟩ := Dp.reads I d p.2 v d1 h.2
    obtain ⟨bs, r2⟩ := Dp.reads I d u y d2 ry
    have eq := SeqAt.eqAt_reads d d A s v y as bs r1 r2 cl cl (by rw [Nat.min_self]; omega)
    rw [ev] at eq
    exact (show PySem.W.KeqHits A s vb ((key, v) :: qs) (true && true) from .hit hy eq (k fun z hz => hp z (List.mem_cons_of_mem _ hz)))
def rEqDS (K : PySem.W.Frag) (neg : Bool) : R2 := fun x y H Q => ∃ a b ks ls, x = .ref a ∧ y = .ref b ∧ H a = some (.dK ks) ∧ H b = some (.dK ls) ∧ ks.length = ls.length ∧ (∀ p ∈ ks, ∃ u, valV ls p.1 = some u ∧ SameD K H p.2 u) ∧ Q (.bl (!neg)) H
theorem op_eqDS (hu : X.A.units + 64 < cLine) : OpR X (compareOp .Eq) (rEqDS X.K false) := by
  intro pins s σ H x y v u Q I rx ry ⟨a, b, ks, ls, ex, ey, ea, eb, hlen, hp, q⟩
  subst ex ey
  obtain rfl : v = Value.ref a := rx
  obtain rfl : u = Value.ref b := ry
  obtain ⟨_, ya, va, ra, da⟩ := (show ObjOk X.prog X.w H s.heap a (.dK ks) from I.hok a _ ea); obtain ⟨_, yb, vb, rb, db⟩ := (show ObjOk X.prog X.w H s.heap b (.dK ls) from I.hok b _ eb)
  have hl : va.length = vb.length := by rw [← ra.length, ← rb.length]; exact hlen
  exact PySem.W.keq_eq (knd := mixKind X.prog X.w) (r := true) ya yb da db (by omega) (fun _ => hits_same I (by show X.A.units + 1 + 60 < cLine; omega) rb ra hp) (fin_bl I q (by simp [hl]))
theorem op_neDS (hu : X.A.units + 64 < cLine) : OpR X (compareOp .NotEq) (rEqDS X.K true) := by
  intro pins s σ H x y v u Q I rx ry ⟨a, b, ks, ls, ex, ey, ea, eb, hlen, hp, q⟩
  subst ex ey
  obtain rfl : v = Value.ref a := rx
  obtain rfl : u = Value.ref b := ry
  obtain ⟨_, ya, va, ra, da⟩ := (show ObjOk X.prog X.w H s.heap a (.dK ks) from I.hok a _ ea); obtain ⟨_, yb, vb, rb, db⟩ := (show ObjOk X.prog X.w H s.heap b (.dK ls) from I.hok b _ eb)
  have hl : va.length = vb.length := by rw [← ra.length, ← rb.length]; exact hlen
  exact PySem.W.keq_ne (knd := mixKind X.prog X.w) (r := true) ya yb da db (by omega) (fun _ => hits_same I (by show X.A.units + 1 + 60 < cLine; omega) rb ra hp) (fin_bl I q (by simp [hl]))
end
end L2
namespace Dl
open PySem PySem.Spec PyProof.Rows L2
/-- keys unlike, values that may be compared -/
def dsame (ks : List (Key × D)) : Prop := (ks.map (·.1)).Nodup ∧ ∀ p ∈ ks, okD p.2 = true ∧ (py p.2).canLay0 = true ∧ (py p.2).depth ≤ 60 ∧ PyData.eqv (py p.2) (py p.2) = true
def fEqK (neg : Bool) : F2 := fun x y P => asDic (fun ks => asDic (fun ls => (ks = ls ∧ dsame ks) ∧ P (.dat (.bl (!neg)))) y.d) x.d
theorem valD_mem : ∀ {ks : List (Key × D)} {k : Key} {d : D}, (ks.map (·.1)).Nodup → (k, d) ∈ ks → valD ks k = some d
  | (k0, d0) :: r, k, d, nd, h => by
    rw [List.map_cons, List.nodup_cons] at nd
    rcases List.mem_cons.mp h with e | h
    · cases e
      simp [valD]
    · have ne : k0 ≠ k := fun e => nd.1 (by rw [e]; exact List.mem_map.mpr ⟨(k, d), h, rfl⟩)
      have ih := valD_mem nd.2 h
      simp only [valD] at ih ⊢
      simpa [List.find?_cons, ne] using ih
theorem repK_mem {K : PySem.W.Frag} {B : Hp} : ∀ {kvs : List (Key × V)} {ks : List (Key × D)}, RepK K B kvs ks → ∀ p ∈ kvs, ∃ d, (p.1, d) ∈ ks ∧ Rep K B p.2 d
  | _, _, .nil, p, h => by cases h
  | _, _, .cons (k := k) (v := v) (d := d) hr t, p, h => by
    rcases List.mem_cons.mp h with e | h
    · subst e
      exact ⟨d, List.mem_cons_self, hr⟩
    · obtain ⟨e, he, r⟩ := repK_mem t p h
      exact ⟨e, List.mem_cons_of_mem _ he, r⟩
theorem rel_eqK {K : PySem.W.Frag} {neg : Bool} : RelR K (rEqDS K neg) (fEqK neg) := by
  intro B H x y vx vy P Q k rx ry h a
  obtain ⟨ks, e1, h⟩ := asDic_elim h
  obtain ⟨ls, e2, ⟨el, nd, ok⟩, h⟩ := asDic_elim h
  subst el
  obtain ⟨p, kvs, rfl, hv, rk⟩ := rv_dic k rx e1
  obtain ⟨q, lvs, rfl, hw, rl⟩ := rv_dic k ry e2
  refine ⟨p, q, kvs, lvs, rfl, rfl, hv, hw, by rw [RepK.length rk, RepK.length rl], fun z hz => ?_, a.dat k (.bl _) h⟩
  obtain ⟨d, hd, rd⟩ := repK_mem rk z hz
  obtain ⟨o1, o2, o3, o4⟩ := ok _ hd
  obtain ⟨u, eu, ru⟩ := rl.val (valD_mem nd hd)
  exact ⟨u, eu, py d, dp_of (Rep.mono k rd) o1, dp_of (Rep.mono k ru) o1, o2, o3, o4⟩
end Dl
/-! Sl8: dict(xs) of pairs. -/
namespace Dl
open PySem PySem.Spec PyProof.Rows L2
/-- the pairs of a row that holds nothing else, keys ints or texts -/
def prsOf : List D → Option (List (Key × D))
  | [] => some []
  | .tup [k, d] :: r => match keyD k with
    | some q => (prsOf r).map ((q, d) :: ·)
    | none => none
  | _ :: _ => none
def fDictPD (P : Val → Prop) : D → Prop
  | .lst l => onO (prsOf l) fun ks => P (.tmp (.dic (mergeD [] ks)))
  | _ => False
def fDictP : F1 := fun x P => fDictPD P x.d
theorem prs_map {α : Type} (k : α → D) (q : α → Key) (d : α → D) (h : ∀ a, keyD (k a) = some (q a)) : ∀ l : List α, prsOf (l.map fun a => .tup [k a, d a]) = some (l.map fun a => (q a, d a))
  | [] => rfl
  | a :: r => by
    show (match keyD (k a) with
      | some q => (prsOf (r.map fun a => .tup [k a, d a])).map ((q, d a) :: ·)
      | none => none) = _
    rw [h a, prs_map k q d h r]
    rfl
/-- a dict of a list of pairs, as the hand layer tells it -/
def rDictP (K : PySem.W.Frag) : List V → Hp → VK → Prop := fun xs H Q => ∃ (a : Addr) (ps : List Addr) (kvs : List (Key × V)), xs = [.ref a] ∧ SqL K H a (ps.map V.ref) ∧ Paired (fun p kv => SqT K H p [kV kv.1, kv.2]) ps kvs ∧ ∀ p, H p = none → Q (.ref p) (upd H p (.dK (mergeK [] kvs)))
theorem prs_rep {K : PySem.W.Frag} {B H : Hp} (k : Kp B H) : ∀ {l : List D} {vs : List V} {ks : List (Key × D)}, RepL K B vs l → prsOf l = some ks → ∃ (ps : List Addr) (kvs : List (Key × V)), vs = ps.map V.ref ∧ Paired (fun p kv => SqT K H p [kV kv.1, kv.2]) ps kvs ∧ RepK K B kvs ks
  | [], _, _, .nil, e => by cases e; exact ⟨[], [], rfl, .nil, .nil⟩
  | d :: r, _, ks, .cons (v := v) (vs := vs) h t, e => by
    unfold prsOf at e
    split at e
    · rename_i e1; cases e1
    · rename_i k0 d0 r0 e1
      cases e1
      split at e
      · rename_i q eq
        cases e2 : prsOf r with
        | none => rw [e2] at e; cases e
        | some ks2 =>
          rw [e2] at e
          cases e
          obtain ⟨ps, kvs, rfl, hp, rk⟩ := prs_rep k t e2
          obtain ⟨a, ws, rfl, _, hs, rl⟩ := rv_tup (x := .dat (.tup [k0, d0])) k h rfl
          cases rl with
          | cons h1 rl =>
            cases rl with
            | cons h2 rl =>
              cases rl
              have ey := key_v (x := .dat k0) (H := H) (show RepV K B H _ (.dat k0) from h1) eq
              subst ey
              exact ⟨a :: ps, (q, _) :: kvs, rfl, .cons hs hp, .cons h2 rk⟩
      · cases e
    · cases e
theorem rel_dictP {K : PySem.W.Frag} : RelC1 K (rDictP K) fDictP := by
  intro B H x vx P Q k rx h a
  unfold fDictP fDictPD at h
  split at h
  · rename_i l e
    obtain ⟨ks, es, q⟩ := onO_elim h
    obtain ⟨p, vs, rfl, hp, rl⟩ := rv_lst k rx e
    obtain ⟨ps, kvs, rfl, hq, rk⟩ := prs_rep k rl es
    refine ⟨p, ps, kvs, rfl, .inl (.inl hp), hq, fun p2 n => ?_⟩
    exact a (.ref p2) (.tmp (.dic (mergeD [] ks))) _ B (.tmp k n) ⟨p2, rfl, k.none n, _, upd_same, RepK.merge rk .nil⟩ (fun _ _ e _ => by cases e; exact n) q
  · exact h.elim
theorem z061 (P : Val → Prop) (l : List D) : fDictPD P (.lst l) = onO (prsOf l) fun ks => P (.tmp (.dic (mergeD [] ks))) := rfl
end Dl
/-! Sl9: list(zip(a, b)) of two lists of one length. -/
namespace Sl
open PySem PySem.Spec PyProof.Rows L2
/-- how a zip object stands ahead of its turn i -/
def ZAt (h : Heap) (z TI TO i1 i2 l1 l2 : Addr) (i : Nat) : Prop :=
  ((IsZip h z TI TO .none ∧ ∃ x y, IsPair h TO x y) ∨ ∃ T f oT, PySem.IsZipHeld h z TI TO T f ∧ h.get? T = some oT) ∧ IsPair h TI (.ref i1) (.ref i2) ∧ h.IsListIter i1 l1 i ∧ h.IsListIter i2 l2 i
/-- the new pairs -/
def PAt (h : Heap) (N : Nat) (xs ys : Array Value) (ts : List Addr) : Prop := ts.Pairwise (· < ·) ∧ ∀ (j : Nat) (T : Addr), ts[j]? = some T → N ≤ T ∧ T < h.objs.size ∧ ∃ x y, xs[j]? = some x ∧ ys[j]? = some y ∧ IsPair h T x y
abbrev LOb (acc : Array Value) (c : Nat) : Obj := { cls := .type "list", dict := none, data := .seq acc c, slots := #[] }
section
variable {prog : Program} {w : World} {A : Around} {s : Shared} {R : Result → Shared → Prop}
theorem zip_fill {N : Nat} {S z TI TO i1 i2 l1 l2 : Addr} {xs ys : Array Value} (D : ZipApart z TI TO i1 i2 l1 l2) (hh : A.handled = none) (far : ∀ b ∈ [z, TI, TO, i1, i2], b ≠ S ∧ b < N) (hS1 : l1 ≠ S) (hS2 : l2 ≠ S) (hSN : S < N) (hl : ∀ b ∈ [l1, l2], ∀ c ∈ [z, TI, TO, i1, i2], b ≠ c) (hsz : xs.size = ys.size) (few : xs.size ≤ sizeLine) (res : Value) :
    ∀ (k i : Nat) (s : Shared) (acc : Array Value) (c : Nat) (ts : List Addr), xs.size - i = k → i ≤ xs.size → N ≤ s.heap.objs.size → ZAt s.heap z TI TO i1 i2 l1 l2 i → s.heap.IsList l1 xs → s.heap.IsList l2 ys → s.heap.get? S = some (LOb acc c) → acc.toList = ts.map Value.ref → ts.length = i → PAt s.heap N xs ys ts →
    (∀ h2 acc2 c2 ts2, (∀ b o, b ∉ [S, z, TI, TO, i1, i2] → s.heap.get? b = some o → h2.get? b = some o) → h2.get? S = some (LOb acc2 c2) → acc2.toList = ts2.map Value.ref → ts2.length = xs.size → PAt h2 N xs ys ts2 → R (.ok (.ret res)) { s with heap := h2 }) →
    codeAny (model prog w) A (.builtin "list.extend.loop" ⟨[.ref S, .ref z, res], []⟩) R s := by
  have hzS : z ≠ S := (far z (by simp)).1
  intro k
  induction k with
  | zero =>
    intro i s acc c ts hk hi hN hz h1 h2 hS ha hlen hp hR
    obtain rfl : i = xs.size := by omega
    obtain ⟨hz0, hTI, hi1, hi2⟩ := hz
    refine codeAny_builtin F.entry_extend_loop ?_
    rw [Around.under_plainId F.plain_extend_loop _]; show wpAny _ A.in1 (pyNext (.ref z) >>= _) _ _ s
    have out : ∀ h', (∀ c o, c ≠ z → c ≠ TO → c ≠ i1 → c ≠ i2 → s.heap.get? c = some o → h'.get? c = some o) → R (.ok (.ret res)) { s with heap := h' } := fun h' kp => by
      have kS := kp S _ (Ne.symm hzS) (Ne.symm (far TO (by simp)).1) (Ne.symm (far i1 (by simp)).1) (Ne.symm (far i2 (by simp)).1) hS
      refine hR h' acc c ts (fun b o hb e => kp b o (fun q => hb (by simp [q])) (fun q => hb (by simp [q])) (fun q => hb (by simp [q])) (fun q => hb (by simp [q])) e) kS ha hlen ⟨hp.1, fun j T hj => ?_⟩
      obtain ⟨a1, a2, x, y, e1, e2, e3⟩ := hp.2 j T hj
      have ne : ∀ b ∈ [z, TI, TO, i1, i2], T ≠ b := fun b hb q => by have := (far b hb).2; rw [← q] at this; exact absurd this (Nat.not_lt.mpr a1)
      have e4 := kp T _ (ne z (by simp)) (ne TO (by simp)) (ne i1 (by simp)) (ne i2 (by simp)) e3
      exact ⟨a1, Heap.lt_size e4, x, y, e1, e2, e4⟩
    have end_ : xs[xs.size]? = none ∨ ys[xs.size]? = none := .inl (by simp)
    rcases hz0 with ⟨hz0, x0, y0, hTO⟩ | ⟨T, f, oT, hz0, hT⟩
    · exact wpAny_bind (wpAny_pyNext_zip_end (by simp [hh]) D hz0 hTI hTO hi1 hi2 h1 h2 end_ fun h' kp => wpAny_pure (out h' kp))
    · exact wpAny_bind (PySem.wpAny_pyNext_zip_end_held (by simp [hh]) D hz0 hT hTI hi1 hi2 h1 h2 end_ fun h' kp => wpAny_pure (out h' fun c o n1 _ n3 n4 e => kp c o n1 n3 n4 e))
  | succ k ih =>
    intro i s acc c ts hk hi hN hz h1 h2 hS ha hlen hp hR
    have lt : i < xs.size := by omega
    obtain ⟨hz0, hTI, hi1, hi2⟩ := hz
    have gx : xs[i]? = some xs[i] := by simp [lt]
    have gy : ys[i]? = some (ys[i]'(by omega)) := by simp [hsz ▸ lt]
    refine codeAny_builtin F.entry_extend_loop ?_
    rw [Around.under_plainId F.plain_extend_loop _]; show wpAny _ A.in1 (pyNext (.ref z) >>= _) _ _ s
    -- behind the turn
    have turn : ∀ h', ZAt h' z TI TO i1 i2 l1 l2 (i + 1) → IsPair h' s.heap.objs.size xs[i] (ys[i]'(by omega)) → (∀ c o, c ≠ z → c ≠ TO → c ≠ i1 → c ≠ i2 → s.heap.get? c = some o → h'.get? c = some o) →
        wpAny (model prog w) A.in1 (do updateSeq S (·.push (.ref s.heap.objs.size)); again (.builtin "list.extend.loop" ⟨[.ref S, .ref z, res], []⟩)) (fun fin s' => match fin with | .done f => R (.ok f) s' | .again c' => c'.quiet = true ∧ codeAny (model prog w) A c' R s') (fun e s' => R (.error e) s') { s with heap := h' } := fun h' hz' hT' kp => by
      have kS := kp S _ (Ne.symm hzS) (Ne.symm (far TO (by simp)).1) (Ne.symm (far i1 (by simp)).1) (Ne.symm (far i2 (by simp)).1) hS
      have k1 : h'.IsList l1 xs := h1.at fun o e => kp l1 o (hl l1 (by simp) z (by simp)) (hl l1 (by simp) TO (by simp)) (hl l1 (by simp) i1 (by simp)) (hl l1 (by simp) i2 (by simp)) e
      have k2 : h'.IsList l2 ys := h2.at fun o e => kp l2 o (hl l2 (by simp) z (by simp)) (hl l2 (by simp) TO (by simp)) (hl l2 (by simp) i1 (by simp)) (hl l2 (by simp) i2 (by simp)) e
      have oth : ∀ b o, b ≠ S → h'.get? b = some o → (h'.update S (Obj.mapSeq (·.push (Value.ref s.heap.objs.size)))).get? b = some o := fun b o hb e => (Heap.get?_update_other _ _ (Ne.symm hb)).trans e
      have lacc : acc.size = i := by rw [← Array.length_toList, ha, List.length_map, hlen]
      refine wpAny_bind (wpAny_updateSeq (hz := by first | (rw [lacc]; omega) | (show (acc.push _).size ≤ _; rw [Array.size_push, lacc]; omega)) kS rfl (wpAny_pure ⟨plainId_quiet F.plain_extend_loop _, ?_⟩))
      have hnz : N ≤ s.heap.objs.size := hN
      have nS : s.heap.objs.size ≠ S := Nat.ne_of_gt (Nat.lt_of_lt_of_le hSN hN)
      have hT2 := oth _ _ nS hT'
      have gl : ∀ j T, ts[j]? = some T → T < s.heap.objs.size := fun j T hj => (hp.2 j T hj).2.1
      refine ih (i + 1) _ (acc.push (.ref s.heap.objs.size)) _ (ts ++ [s.heap.objs.size]) (by omega) lt (Nat.le_trans hN (Nat.le_of_lt (Heap.lt_size hT2))) ?_ (k1.at fun o e => oth l1 o hS1 e) (k2.at fun o e => oth l2 o hS2 e) (Heap.get?_update_self _ kS rfl) (by rw [Array.toList_push, ha, List.map_append]; rfl) (by rw [List.length_append, hlen]; rfl) ⟨?_, fun j T hj => ?_⟩ fun h2 acc2 c2 ts2 kk e1 e2 e3 e4 => ?_
      · obtain ⟨zz, a1, a2, a3⟩ := hz'
        refine ⟨?_, oth _ _ (far TI (by simp)).1 a1, a2.at fun o e => oth i1 o (far i1 (by simp)).1 e, a3.at fun o e => oth i2 o (far i2 (by simp)).1 e⟩
        rcases zz with ⟨b1, x0, y0, b2⟩ | ⟨T, f, oT, b1, b2⟩
        · exact .inl ⟨oth _ _ hzS b1, x0, y0, oth _ _ (far TO (by simp)).1 b2⟩
        · refine .inr ⟨T, f, ?_⟩
          by_cases q : T = S
          · exact ⟨Obj.mapSeq (·.push (Value.ref s.heap.objs.size)) (LOb acc c), oth _ _ hzS b1, by rw [q]; exact Heap.get?_update_self _ kS rfl⟩
          · exact ⟨_, oth _ _ hzS b1, oth _ _ q b2⟩
      · rw [List.pairwise_append]
        refine ⟨hp.1, List.pairwise_singleton _ _, fun a ha2 b hb => ?_⟩
        rw [List.mem_singleton.mp hb]
        obtain ⟨j, hj⟩ := List.getElem?_of_mem ha2
        exact gl j a hj
      · rcases Nat.lt_or_ge j ts.length with q | q
        · rw [List.getElem?_append_left q] at hj
          obtain ⟨a1, a2, x, y, b1, b2, b3⟩ := hp.2 j T hj
          have ne : ∀ b ∈ [z, TI, TO, i1, i2], T ≠ b := fun b hb q => by have := (far b hb).2; rw [← q] at this; exact absurd this (Nat.not_lt.mpr a1)
          have e4 := oth T _ (fun w => absurd (w ▸ a1 : N ≤ S) (Nat.not_le.mpr hSN)) (kp T _ (ne z (by simp)) (ne TO (by simp)) (ne i1 (by simp)) (ne i2 (by simp)) b3)
          exact ⟨a1, Heap.lt_size e4, x, y, b1, b2, e4⟩
        · rw [List.getElem?_append_right q] at hj
          have j0 : j - ts.length = 0 := by
            rcases Nat.eq_zero_or_pos (j - ts.length) with w | w
            · exact w
            · rw [List.getElem?_eq_none (by simp; omega)] at hj; cases hj
          rw [j0] at hj
          have eT : s.heap.objs.size = T := by simpa using hj
          have ej : j = i := by omega
          subst eT ej
          exact ⟨hN, Heap.lt_size hT2, _, _, gx, gy, hT2⟩
      · refine hR h2 acc2 c2 ts2 (fun b o hb e => ?_) e1 e2 e3 e4
        have nb : ∀ d ∈ [S, z, TI, TO, i1, i2], b ≠ d := fun d hd q => hb (q ▸ hd)
        exact kk b o hb (oth b o (nb S (by simp)) (kp b o (nb z (by simp)) (nb TO (by simp)) (nb i1 (by simp)) (nb i2 (by simp)) e))
    rcases hz0 with ⟨hz0, x0, y0, hTO⟩ | ⟨T, f, oT, hz0, hT⟩
    · refine wpAny_bind (wpAny_pyNext_zip_item D hz0 hTI hTO hi1 hi2 h1 h2 gx gy fun h' z' _ a1 a2 hT' _ kp => turn h' ⟨.inr ⟨_, false, _, z', hT'⟩, kp TI _ D.TIz D.TITO D.TIi1 D.TIi2 hTI, a1, a2⟩ hT' kp)
    · refine wpAny_bind (wpAny_pyNext_zip_item_held D hz0 hT hTI hi1 hi2 h1 h2 gx gy fun h' z' a1 a2 hT' _ kp => turn h' ⟨.inr ⟨T, true, ?_⟩, kp TI _ D.TIz D.TIi1 D.TIi2 hTI, a1, a2⟩ hT' fun c o n1 _ n3 n4 e => kp c o n1 n3 n4 e)
      by_cases q1 : T = z
      · rw [q1]; exact ⟨_, q1 ▸ z', q1 ▸ z'⟩
      · by_cases q2 : T = i1
        · obtain ⟨o, eo, _⟩ := a1
          exact ⟨o, z', q2 ▸ eo⟩
        · by_cases q3 : T = i2
          · obtain ⟨o, eo, _⟩ := a2
            exact ⟨o, z', q3 ▸ eo⟩
          · exact ⟨_, z', kp T _ q1 q2 q3 hT⟩
theorem zip_len0 : typeLookup (.type "zip") "__len__" = pure none := by rw [typeLookup_type, builtinLookup_eq_fast]; kernel_rfl
theorem zip_hint0 : typeLookup (.type "zip") "__length_hint__" = pure none := by rw [typeLookup_type, builtinLookup_eq_fast]; kernel_rfl
theorem zip_typed {h : Heap} {z TI TO i1 i2 l1 l2 : Addr} {i : Nat} (Z : ZAt h z TI TO i1 i2 l1 l2 i) : ∃ o, h.get? z = some o ∧ o.cls = .type "zip" := by
  rcases Z.1 with ⟨b, _⟩ | ⟨T, f, oT, b, _⟩
  · exact ⟨_, b, rfl⟩
  · exact ⟨_, b, rfl⟩
theorem ZAt.keep {h h2 : Heap} {S z TI TO i1 i2 l1 l2 : Addr} {i : Nat} (Z : ZAt h z TI TO i1 i2 l1 l2 i) (far : ∀ b ∈ [z, TI, TO, i1, i2], b ≠ S) (oth : ∀ b o, b ≠ S → h.get? b = some o → h2.get? b = some o) (al : ∀ o, h.get? S = some o → ∃ u, h2.get? S = some u) : ZAt h2 z TI TO i1 i2 l1 l2 i := by
  obtain ⟨zz, a1, a2, a3⟩ := Z
  refine ⟨?_, oth _ _ (far TI (by simp)) a1, a2.at fun o e => oth i1 o (far i1 (by simp)) e, a3.at fun o e => oth i2 o (far i2 (by simp)) e⟩
  rcases zz with ⟨b1, x0, y0, b2⟩ | ⟨T, f, oT, b1, b2⟩
  · exact .inl ⟨oth _ _ (far z (by simp)) b1, x0, y0, oth _ _ (far TO (by simp)) b2⟩
  · refine .inr ⟨T, f, ?_⟩
    by_cases q : T = S
    · obtain ⟨u, eu⟩ := al oT (q ▸ b2)
      exact ⟨u, oth _ _ (far z (by simp)) b1, by rw [q]; exact eu⟩
    · exact ⟨_, oth _ _ (far z (by simp)) b1, oth _ _ q b2⟩
theorem init_zip {N : Nat} {S z TI TO i1 i2 l1 l2 : Addr} {xs ys : Array Value} {s : Shared} (D : ZipApart z TI TO i1 i2 l1 l2) (hh : A.handled = none) (far : ∀ b ∈ [z, TI, TO, i1, i2], b ≠ S ∧ b < N) (hS1 : l1 ≠ S) (hS2' : l2 ≠ S) (hSN : S < N) (hl : ∀ b ∈ [l1, l2], ∀ c ∈ [z, TI, TO, i1, i2], b ≠ c) (hsz : xs.size = ys.size) (few : xs.size ≤ sizeLine)
    (hN : N ≤ s.heap.objs.size) (hz : IsZip s.heap z TI TO .none) (Z : ZAt s.heap z TI TO i1 i2 l1 l2 0) (h1 : s.heap.IsList l1 xs) (h2 : s.heap.IsList l2 ys) (hS : s.heap.get? S = some { cls := .type "list", data := .seq #[] })
    (hR : ∀ h2 acc2 c2 ts2, (∀ b o, b ∉ [S, z, TI, TO, i1, i2] → s.heap.get? b = some o → h2.get? b = some o) → h2.get? S = some (LOb acc2 c2) → acc2.toList = ts2.map Value.ref → ts2.length = xs.size → PAt h2 N xs ys ts2 → R (.ok (.ret .none)) { s with heap := h2 }) :
    wpAny (model prog w) A.in1 (Builtin.«list.__init__» ⟨[.ref S, .ref z], []⟩)
      (fun fin s' => match fin with | .done f => R (.ok f) s' | .again c' => c'.quiet = true ∧ codeAny (model prog w) A c' R s') (fun e s' => R (.error e) s') s := by
  have hzS : z ≠ S := (far z (by simp)).1
  show wpAny _ A.in1 (do let old ← Builtin.List.listItems (.ref S); Builtin.List.listUpdate (.ref S) (fun _ => #[]); letGo old.toList.reverse; Builtin.List.listExtendWith (.ref S) (.ref z) .none) _ _ s
  refine wpAny_bind ?_; unfold Builtin.List.listItems; refine wpAny_bind (wpAny_seqItems hS rfl (wpAny_pure ?_))
  show wpAny _ A.in1 (updateSeq S (fun _ => #[]) >>= fun _ => letGo (#[] : Array Value).toList.reverse >>= fun _ => Builtin.List.listExtendWith (.ref S) (.ref z) .none) _ _ s
  refine wpAny_bind (wpAny_updateSeq hS rfl ?_)
  have hS2 := Heap.get?_update_self (Obj.mapSeq (fun _ => (#[] : Array Value))) hS rfl
  have o1 : ∀ b o, b ≠ S → s.heap.get? b = some o → (s.heap.update S (Obj.mapSeq (fun _ => (#[] : Array Value)))).get? b = some o := fun b o hb e => (Heap.get?_update_other _ _ (Ne.symm hb)).trans e
  have Z2 := Z.keep (fun b hb => (far b hb).1) o1 fun _ _ => ⟨_, hS2⟩
  obtain ⟨oz, ez, cz⟩ := zip_typed Z2
  refine wpAny_bind (wpAny_letGo ?_)
  unfold Builtin.List.listExtendWith
  have ty : Shared.TypeIs { s with heap := s.heap.update S (Obj.mapSeq (fun _ => (#[] : Array Value))) } (.ref z) "zip" := ⟨oz, ez, cz⟩
  refine wpAny_bind (wpAny_typeOf ty ?_)
  have n1 : Builtin.List.listSameRef (.ref S) (.ref z) = false := by simp [Builtin.List.listSameRef, Ne.symm hzS]
  have n2 : (Value.type "zip" == Value.type "list") = false := by decide
  have n3 : (Value.type "zip" == Value.type "tuple") = false := by decide
  simp only [n1, n2, n3, Bool.or_false, Bool.false_eq_true, if_false]
  have hz2 : IsZip (s.heap.update S (Obj.mapSeq (fun _ => (#[] : Array Value)))) z TI TO .none := o1 _ _ hzS hz
  refine wpAny_bind (wpAny_pyIter_zip hz2 (wpAny_bind (wpAny_holding ?_)))
  unfold Builtin.List.listLengthHint
  refine wpAny_bind (wpAny_specialOf ty zip_len0 ?_)
  show wpAny _ A.in1 (specialOf (.ref z) "__length_hint__" >>= _) _ _ _
  refine wpAny_bind (wpAny_specialOf ty zip_hint0 (wpAny_pure ?_))
  refine wpAny_bind (wpAny_rule (wpAny_bind ?_))
  unfold Builtin.List.listTouch
  refine wpAny_bind (wpAny_updateSeq hS2 rfl ?_)
  have hS3 := Heap.get?_update_self (Obj.mapSeq (·.push Value.none)) hS2 rfl
  refine wpAny_updateSeq (hz := by seq_fits) hS3 rfl ?_
  have hS4 := Heap.get?_update_self (Obj.mapSeq (·.pop)) hS3 rfl
  have o2 : ∀ b o, b ≠ S → s.heap.get? b = some o → (((s.heap.update S (Obj.mapSeq (fun _ => (#[] : Array Value)))).update S (Obj.mapSeq (·.push Value.none))).update S (Obj.mapSeq (·.pop))).get? b = some o :=
    fun b o hb e => (Heap.get?_update_other _ _ (Ne.symm hb)).trans ((Heap.get?_update_other _ _ (Ne.symm hb)).trans (o1 b o hb e))
  have sz : N ≤ (((s.heap.update S (Obj.mapSeq (fun _ => (#[] : Array Value)))).update S (Obj.mapSeq (·.push Value.none))).update S (Obj.mapSeq (·.pop))).objs.size := by simpa using hN
  refine wpAny_pure ⟨plainId_quiet F.plain_extend_loop _, zip_fill (N := N) D hh far hS1 hS2' hSN hl hsz few .none xs.size 0 _ _ _ [] rfl (Nat.zero_le _) sz (Z.keep (fun b hb => (far b hb).1) o2 fun _ _ => ⟨_, hS4⟩) (h1.at fun o e => o2 l1 o hS1 e) (h2.at fun o e => o2 l2 o hS2' e) hS4 rfl rfl ⟨List.Pairwise.nil, fun j T hj => by simp at hj⟩ fun h3 acc2 c2 ts2 kk e1 e2 e3 e4 => ?_⟩
  exact hR h3 acc2 c2 ts2 (fun b o hb e => kk b o hb (o2 b o (fun q => hb (by simp [q])) e)) e1 e2 e3 e4
theorem call_list_zip {z TI TO i1 i2 l1 l2 : Addr} {xs ys : Array Value} {s : Shared} {E : Value → Shared → Prop} {Q : Value → Shared → Prop} (D : ZipApart z TI TO i1 i2 l1 l2) (hh : A.handled = none)
    (hl : ∀ b ∈ [l1, l2], ∀ c ∈ [z, TI, TO, i1, i2], b ≠ c) (hsz : xs.size = ys.size) (few : xs.size ≤ sizeLine) (hz : IsZip s.heap z TI TO .none) (hTO : ∃ x y, IsPair s.heap TO x y) (hTI : IsPair s.heap TI (.ref i1) (.ref i2)) (hi1 : s.heap.IsListIter i1 l1 0) (hi2 : s.heap.IsListIter i2 l2 0) (h1 : s.heap.IsList l1 xs) (h2 : s.heap.IsList l2 ys)
    (hQ : ∀ h3 acc c ts, (∀ b o, b ∉ [s.heap.objs.size, z, TI, TO, i1, i2] → s.heap.get? b = some o → h3.get? b = some o) → h3.get? s.heap.objs.size = some (LOb acc c) → acc.toList = ts.map Value.ref → ts.length = xs.size → PAt h3 (s.heap.objs.size + 1) xs ys ts → Q (.ref s.heap.objs.size) { s with heap := h3 }) :
    wpAny (model prog w) A (call (.type "list") [.ref z]) Q E s := by
  refine callType_codes (Q₁ := fun o1 s1 => o1 = .ref s.heap.objs.size ∧ s1 = { s with heap := s.heap.push { cls := .type "list", data := .seq #[] } })
    F.called_list (F.typeCall_list_1 _) F.entry_list_init (code_list_new _ ⟨rfl, rfl⟩) fun o1 s1 q => ?_
  obtain ⟨rfl, rfl⟩ := q
  have mk : ∀ b o, s.heap.get? b = some o → (s.heap.push { cls := .type "list", data := .seq #[] }).get? b = some o := fun b o e => Heap.get?_push_of_some _ e
  have eS : (s.heap.push { cls := .type "list", data := .seq #[] }).get? s.heap.objs.size = some { cls := .type "list", data := .seq #[] } := Heap.get?_push_size _ rfl
  have lt1 : l1 < s.heap.objs.size := by obtain ⟨_, e, _⟩ := h1; exact Heap.lt_size e
  have lt2 : l2 < s.heap.objs.size := by obtain ⟨_, e, _⟩ := h2; exact Heap.lt_size e
  have lo : ∀ b ∈ [z, TI, TO, i1, i2], b < s.heap.objs.size := fun b hb => by
    simp only [List.mem_cons, List.not_mem_nil, or_false] at hb
    rcases hb with rfl | rfl | rfl | rfl | rfl
    · exact Heap.lt_size hz
    · exact Heap.lt_size hTI
    · obtain ⟨x, y, e⟩ := hTO; exact Heap.lt_size e
    · obtain ⟨_, e, _⟩ := hi1; exact Heap.lt_size e
    · obtain ⟨_, e, _⟩ := hi2; exact Heap.lt_size e
  refine ⟨⟨_, eS, rfl⟩, F.args_list_init_2 _ _, ?_⟩
  refine init_zip (A := A.in1) (N := s.heap.objs.size + 1) D (by simp [hh]) (fun b hb => ⟨Nat.ne_of_lt (lo b hb), Nat.lt_succ_of_lt (lo b hb)⟩) (Nat.ne_of_lt lt1) (Nat.ne_of_lt lt2) (Nat.lt_succ_self _) hl hsz few (by rw [Heap.size_push]; exact Nat.le_refl _) (mk _ _ hz)
    ⟨.inl ⟨mk _ _ hz, by obtain ⟨x, y, e⟩ := hTO; exact ⟨x, y, mk _ _ e⟩⟩, mk _ _ hTI, hi1.at fun o e => mk _ o e, hi2.at fun o e => mk _ o e⟩ (h1.at fun o e => mk _ o e) (h2.at fun o e => mk _ o e) eS fun h3 acc c ts kk e1 e2 e3 e4 => ?_
  exact ⟨rfl, hQ h3 acc c ts (fun b o hb e => kk b o hb (mk b o e)) e1 e2 e3 e4⟩
end
end Sl
/-! Sl10: list(zip(a, b)), read by the hand layer and by data. -/
namespace L2
open PySem PySem.Spec PyProof.Rows
/-- the new pairs, each at its own place -/
def putZ : Hp → List Addr → List (V × V) → Hp
  | H, t :: ts, q :: qs => putZ (upd H t (.tup [q.1, q.2])) ts qs
  | H, _, _ => H
theorem putZ_off {b : Addr} : ∀ (ts : List Addr) (qs : List (V × V)) (H : Hp), b ∉ ts → putZ H ts qs b = H b
  | [], _, _, _ => rfl
  | _ :: _, [], _, _ => rfl
  | t :: ts, q :: qs, H, h => (putZ_off ts qs _ fun z => h (.tail _ z)).trans (upd_ne fun z => h (by rw [z]; exact .head _))
theorem putZ_at : ∀ (ts : List Addr) (qs : List (V × V)) (H : Hp), ts.Nodup → ∀ (j : Nat) (t : Addr) (q : V × V), ts[j]? = some t → qs[j]? = some q → putZ H ts qs t = some (.tup [q.1, q.2])
  | [], _, _, _, j, t, q, h, _ => by simp at h
  | _ :: _, [], _, _, j, t, q, _, h => by simp at h
  | t :: ts, q :: qs, H, hn, 0, u, r, h1, h2 => by
    obtain rfl : t = u := by simpa using h1
    obtain rfl : q = r := by simpa using h2
    exact (putZ_off ts qs _ (List.nodup_cons.mp hn).1).trans upd_same
  | t :: ts, q :: qs, H, hn, j + 1, u, r, h1, h2 => putZ_at ts qs _ (List.nodup_cons.mp hn).2 j u r (by simpa using h1) (by simpa using h2)
theorem refs_vals : ∀ ts : List Addr, Vals (ts.map V.ref) (ts.map Value.ref)
  | [] => .nil
  | t :: ts => .cons rfl (refs_vals ts)
/-- list(zip(a, b)) of two lists of one length -/
def rListZip (K : PySem.W.Frag) : List V → Hp → VK → Prop := fun vs H Q => ∃ (a b : Addr) (xs ys : List V), vs = [.ref a, .ref b] ∧ SqL K H a xs ∧ SqL K H b ys ∧ xs.length = ys.length ∧
  ∀ (p : Addr) (ts : List Addr), H p = none → (∀ t ∈ ts, H t = none) → p ∉ ts → ts.Nodup → ts.length = xs.length → Q (.ref p) (putZ (upd H p (.lst (ts.map V.ref))) ts (xs.zip ys))
section
variable {X : Cx} {e e2 : Expr} {ta : TA} {p p2 pos pos2 : Pos}
theorem zip_laid {pins : List (Addr × Obj)} {σ : St} {H : Hp} {s : Shared} {h3 : Heap} {xs ys : List V} {us ws : List Value} {acc : Array Value} {c : Nat} {ts : List Addr} {N S : Nat} (I : Inv X pins σ H s) (rx : Vals xs us) (ry : Vals ys ws) (hl : xs.length = ys.length) (few : xs.length ≤ sizeLine) (hN : s.heap.objs.size ≤ S) (hSN : S < N)
    (hk : ∀ b o, s.heap.get? b = some o → h3.get? b = some o) (hS : h3.get? S = some (Sl.LOb acc c)) (ha : acc.toList = ts.map Value.ref) (ht : ts.length = xs.length) (hp : Sl.PAt h3 N us.toArray ws.toArray ts) :
    H S = none ∧ (∀ t ∈ ts, H t = none) ∧ S ∉ ts ∧ ts.Nodup ∧ Inv X pins σ (putZ (upd H S (.lst (ts.map V.ref))) ts (xs.zip ys)) { s with heap := h3 } := by
  have big : ∀ t ∈ ts, N ≤ t := fun t q => by
    obtain ⟨j, hj⟩ := List.getElem?_of_mem q
    exact (hp.2 j t hj).1
  have nd : ts.Nodup := hp.1.imp fun q => Nat.ne_of_lt q
  have nS : S ∉ ts := fun q => absurd hSN (Nat.not_lt.mpr (big S q))
  have nt : ∀ t ∈ ts, H t = none := fun t q => I.hok.fresh (Nat.le_trans hN (Nat.le_trans (Nat.le_of_lt hSN) (big t q)))
  have n0 : H S = none := I.hok.fresh hN
  have off : ∀ b, b ∉ ts → b ≠ S → putZ (upd H S (.lst (ts.map V.ref))) ts (xs.zip ys) b = H b := fun b q1 q2 => (putZ_off ts _ _ q1).trans (upd_ne q2)
  have low : ∀ b o, s.heap.get? b = some o → b ∉ ts ∧ b ≠ S := fun b o q => by
    have := Heap.lt_size q
    exact ⟨fun z => absurd this (Nat.not_lt.mpr (Nat.le_trans hN (Nat.le_trans (Nat.le_of_lt hSN) (big b z)))), Nat.ne_of_lt (Nat.lt_of_lt_of_le this hN)⟩
  have kp : ∀ b u, H b = some u → putZ (upd H S (.lst (ts.map V.ref))) ts (xs.zip ys) b = some u := fun b u q => by
    rw [off b (fun z => by rw [nt b z] at q; cases q) (fun z => by rw [z, n0] at q; cases q)]
    exact q
  have eS : putZ (upd H S (.lst (ts.map V.ref))) ts (xs.zip ys) S = some (.lst (ts.map V.ref)) := (putZ_off ts _ _ nS).trans upd_same
  refine ⟨n0, nt, nS, nd, ?_⟩
  refine I.call' (ch := []) (s' := { s with heap := h3 }) rfl ⟨fun b o q _ _ _ => hk b o q, fun b o q _ _ _ => ⟨o.slots, hk b o q⟩, fun b o q n _ => ?_, fun b o q _ => ⟨o, hk b o q⟩, fun b xs q => kp b _ q, fun b o u q => kp b _ q, fun b ps q => ⟨#[], by rw [kp b _ q]; simp⟩⟩ (fun b u q => ?_) I.bare fun b z => by simp at z
  · obtain ⟨z1, z2⟩ := low b o q
    exact (off b z1 z2).trans n
  · by_cases hb : b ∈ ts
    · obtain ⟨j, hj⟩ := List.getElem?_of_mem hb
      have lj : j < xs.length := by
        rw [← ht]
        exact (List.getElem?_eq_some_iff.mp hj).1
      have lj2 : j < ys.length := hl ▸ lj
      have ez : (xs.zip ys)[j]? = some (xs[j], ys[j]) := List.getElem?_zip_eq_some.mpr ⟨List.getElem?_eq_getElem lj, List.getElem?_eq_getElem lj2⟩
      rw [putZ_at ts _ _ nd j b _ hj ez] at q
      cases q
      obtain ⟨_, _, x, y, f1, f2, f3⟩ := hp.2 j b hj
      have r1 : RelV xs[j] x := by
        obtain ⟨v, g1, g2⟩ := rx.get (List.getElem?_eq_getElem lj)
        rw [List.getElem?_toArray, g1] at f1
        cases f1
        exact g2
      have r2 : RelV ys[j] y := by
        obtain ⟨v, g1, g2⟩ := ry.get (List.getElem?_eq_getElem lj2)
        rw [List.getElem?_toArray, g1] at f2
        cases f2
        exact g2
      exact ⟨by show 2 ≤ sizeLine; decide, [x, y], .cons r1 (.cons r2 .nil), ⟨_, f3, rfl, _, rfl⟩⟩
    · by_cases hb2 : b = S
      · subst hb2
        rw [eS] at q
        cases q
        refine ⟨by rw [List.length_map, ht]; exact few, acc.toList, c, by rw [ha]; exact refs_vals ts, ?_⟩
        rw [Array.toArray_toList]
        exact hS
      · rw [off b hb hb2] at q
        exact (I.hok b u q).stay (fun d v _ y => hk d v y) (fun d y => kp d _ y) fun d xs y => kp d _ y
theorem pe_listZip (hc : X.calm = true) (hg : Gl X "list") (hm : X.mg "list" = none) (hg2 : Gl X "zip") (hm2 : X.mg "zip" = none) (ha : PA X [e, e2] ta)
    (hs2 : starEach [e, e2] X.env = (false, eval e X.env) :: starEach [e2] X.env := by rfl) (hpl2 : (backTo pos2 (starEach [e2] X.env)).any (·.1) = false := by rfl)
    (hs : starEach [.Call (.Name "zip" p2) [e, e2] [] pos2] X.env = (false, eval (.Call (.Name "zip" p2) [e, e2] [] pos2) X.env) :: starEach [] X.env := by rfl) (hpl : (backTo pos (starEach [] X.env)).any (·.1) = false := by rfl) :
    PE X (.Call (.Name "list" p) [.Call (.Name "zip" p2) [e, e2] [] pos2] [] pos) (tCB (rListZip X.K) ta) := by
  refine ⟨fun pins s σ H Q I hq => ?_⟩
  refine Call_ (ld_blt I hg hm PyProof.Rows.boot_list (PyProof.Rows.callWith_type1 ?_ hs hpl))
  rw [hs]
  show wpAny _ _ (spliced ((false, eval (.Call (.Name "zip" p2) [e, e2] [] pos2) X.env) :: backTo pos (starEach [] X.env))) _ _ s
  refine Calls.spliced_cons ?_
  refine Call_ (ld_blt I hg2 hm2 PyProof.Rows.boot_zip (PyProof.Rows.callWith_type1 (thn (ha.run pos2 pins s σ H _ I hq) fun us s1 ⟨vs, H1, I1, r1, q1⟩ => ?_) hs2 hpl2))
  obtain ⟨a, b, xs, ys, ex, hqx, hqy, hl, q1⟩ := q1
  subst ex
  cases r1 with
  | cons r rr =>
    cases rr with
    | cons r' rr =>
      cases rr
      cases r
      cases r'
      obtain ⟨its, rv, p1, few⟩ := I1.list hqx
      obtain ⟨its2, rv2, p3, few2⟩ := I1.list hqy
      refine call_zip_2 p1.isList p3.isList fun h' hz hTI hTO h1 h2 hsz hk => Calls.spliced_nil ?_
      have lx := rv.length
      have ly := rv2.length
      have l1 := p1.lt
      have l2 := p3.lt
      refine Sl.call_list_zip (PySem.W.ktu_apart s1.heap.objs.size a b l1 l2) (I1.ok.hd hc) (fun d hd c hcm => ?_) (xs := its.toArray) (ys := its2.toArray) (by simp; omega) (by simp; omega) hz ⟨_, _, hTO⟩ hTI h1 h2 (p1.isList.at fun o q => hk _ o q) (p3.isList.at fun o q => hk _ o q) fun h3 acc c ts kk e1 e3 e4 e5 => ?_
      · have lt : d < s1.heap.objs.size := by
          simp only [List.mem_cons, List.not_mem_nil, or_false] at hd
          rcases hd with rfl | rfl
          · exact l1
          · exact l2
        simp only [List.mem_cons, List.not_mem_nil, or_false] at hcm
        rcases hcm with rfl | rfl | rfl | rfl | rfl
        all_goals first
          | exact Nat.ne_of_lt (Nat.lt_of_lt_of_le lt (Nat.le_add_right _ _))
          | exact Nat.ne_of_lt lt
      · rw [hsz] at kk
        have k3 : ∀ b o, s1.heap.get? b = some o → h3.get? b = some o := fun b o q => by
          have lt := Heap.lt_size q
          refine kk b o (fun z => ?_) (hk b o q)
          simp only [List.mem_cons, List.not_mem_nil, or_false] at z
          rcases z with z | z | z | z | z | z
          all_goals first
            | exact absurd z (Nat.ne_of_lt (Nat.lt_of_lt_of_le lt (Nat.le_add_right _ _)))
            | exact absurd z (Nat.ne_of_lt lt)
        obtain ⟨z1, z2, z3, z4, J⟩ := zip_laid (S := h'.objs.size) I1 rv rv2 hl few (by omega) (Nat.lt_succ_self _) k3 e1 e3 (by rw [e4]; simp [lx]) e5
        exact ⟨.ref _, _, J, rfl, q1 _ ts z1 z2 z3 z4 (by rw [e4]; simp [lx])⟩
end
end L2
namespace Dl
open PySem PySem.Spec PyProof.Rows L2
/-- the pairs of two lists -/
def prsD (l m : List D) : List D := (l.zip m).map fun q => .tup [q.1, q.2]
def fLZD (P : Val → Prop) : D → D → Prop
  | .lst l, .lst m => l.length = m.length ∧ P (.tmp (.lst (prsD l m)))
  | _, _ => False
/-- list(zip(a, b)) -/
def fLZ : F2 := fun x y P => fLZD P x.d y.d
theorem step_putZ : ∀ (ts : List Addr) (qs : List (V × V)) {B H : Hp}, Kp B H → (∀ t ∈ ts, H t = none) → ts.Nodup → Step B H (putZ B ts qs) (putZ H ts qs)
  | [], _, _, _, k, _, _ => .refl k
  | _ :: _, [], _, _, k, _, _ => .refl k
  | t :: ts, q :: qs, B, H, k, n, nd => by
    have nt := n t (.head _)
    have s1 : Step B H (upd B t (.tup [q.1, q.2])) (upd H t (.tup [q.1, q.2])) := .new k nt
    refine s1.trans (step_putZ ts qs s1.sub (fun u hu => ?_) (List.nodup_cons.mp nd).2)
    rw [upd_ne (fun z => (List.nodup_cons.mp nd).1 (by rw [← z]; exact hu))]
    exact n u (.tail _ hu)
theorem putZ_kp : ∀ (ts : List Addr) (qs : List (V × V)) {B : Hp}, (∀ t ∈ ts, B t = none) → ts.Nodup → Kp B (putZ B ts qs) := fun ts qs {B} n nd => (step_putZ ts qs (.refl B) n nd).kp
theorem rep_putZ {K : PySem.W.Frag} : ∀ (ts : List Addr) {l m : List D} {vs ws : List V} {B : Hp}, RepL K B vs l → RepL K B ws m → (∀ t ∈ ts, B t = none) → ts.Nodup → ts.length = vs.length → vs.length = ws.length → RepL K (putZ B ts (vs.zip ws)) (ts.map V.ref) (prsD l m)
  | [], _, _, _, _, _, .nil, _, _, _, _, _ => .nil
  | [], _, _, _, _, _, .cons _ _, _, _, _, e, _ => by simp at e
  | t :: ts, _, _, _, _, _, .nil, _, _, _, e, _ => by simp at e
  | t :: ts, _, _, _, _, _, .cons _ _, .nil, _, _, _, e => by simp at e
  | t :: ts, _, _, _, _, B, .cons (v := v) (vs := vs) h r, .cons (v := w) (vs := ws) h2 r2, n, nd, e1, e2 => by
    have nt := n t (.head _)
    have nd2 := List.nodup_cons.mp nd
    have n2 : ∀ u ∈ ts, upd B t (.tup [v, w]) u = none := fun u hu => by
      rw [upd_ne (fun z => nd2.1 (by rw [← z]; exact hu))]
      exact n u (.tail _ hu)
    have k1 : Kp B (upd B t (.tup [v, w])) := Kp.new nt
    have k2 := putZ_kp ts (vs.zip ws) n2 nd2.2
    refine .cons ?_ (rep_putZ ts (r.mono k1) (r2.mono k1) n2 nd2.2 (by simpa using e1) (by simpa using e2))
    exact .tup (.inl (.inl ((putZ_off ts _ _ nd2.1).trans upd_same))) (.cons (h.mono (k1.trans k2)) (.cons (h2.mono (k1.trans k2)) .nil))
theorem rel_listZip {K : PySem.W.Frag} : RelC2 K (rListZip K) fLZ := by
  intro B H x y vx vy P Q k rx ry h a
  unfold fLZ fLZD at h
  split at h
  · rename_i l m e1 e2
    obtain ⟨hl, q⟩ := h
    obtain ⟨p1, vs, rfl, h1, r1⟩ := rv_lst k rx e1
    obtain ⟨p2, ws, rfl, h2, r2⟩ := rv_lst k ry e2
    have el : vs.length = ws.length := by rw [r1.length, r2.length, hl]
    refine ⟨p1, p2, vs, ws, rfl, .inl (.inl h1), .inl (.inl h2), el, fun p ts n nt np nd lt => ?_⟩
    have nb : ∀ t ∈ ts, B t = none := fun t ht => k.none (nt t ht)
    have s1 : Step B H B (upd H p (.lst (ts.map V.ref))) := .tmp k n
    have n2 : ∀ t ∈ ts, upd H p (.lst (ts.map V.ref)) t = none := fun t ht => by
      rw [upd_ne (fun z => np (by rw [← z]; exact ht))]
      exact nt t ht
    refine a (.ref p) (.tmp (.lst (prsD l m))) _ (putZ B ts (vs.zip ws)) (s1.trans (step_putZ ts _ s1.sub n2 nd)) ⟨p, rfl, ?_, _, (putZ_off ts _ _ np).trans upd_same, rep_putZ ts r1 r2 nb nd lt el⟩ (fun _ _ e _ => by cases e; exact n) q
    exact (putZ_off ts _ _ np).trans (k.none n)
  · exact h.elim
section
variable {X : Cx} {W : WX} {a b : Expr} {p p2 pos pos2 : Pos}
abbrev LZip (p p2 pos pos2 : Pos) (a b : Expr) : Expr := .Call (.Name "list" p) [.Call (.Name "zip" p2) [a, b] [] pos2] [] pos
theorem q_listZip {da db : DE} {fa fb : Bool} (hc : X.calm = true) (hg : Gl X "list") (hm : X.mg "list" = none) (hg2 : Gl X "zip") (hm2 : X.mg "zip" = none) (ha : PE X a (L X.K W fa da)) (hb : PE X b (L X.K W fb db))
    (he : starEach [a, b] X.env = (false, eval a X.env) :: starEach [b] X.env := by rfl) (he2 : starEach [b] X.env = (false, eval b X.env) :: starEach [] X.env := by rfl) (hpl2 : (backTo pos2 (starEach [b] X.env)).any (·.1) = false := by rfl)
    (hs : starEach [.Call (.Name "zip" p2) [a, b] [] pos2] X.env = (false, eval (.Call (.Name "zip" p2) [a, b] [] pos2) X.env) :: starEach [] X.env := by rfl) (hpl : (backTo pos (starEach [] X.env)).any (·.1) = false := by rfl) :
    PE X (LZip p p2 pos pos2 a b) (L X.K W true (dOp fLZ da db)) := imE (pe_listZip hc hg hm hg2 hm2 (pa_cons ha (pa_cons hb pa_nil he2) he) he hpl2 hs hpl) (l_op rel_listZip)
end
theorem z071 (P : Val → Prop) (l m : List D) : fLZD P (.lst l) (.lst m) = (l.length = m.length ∧ P (.tmp (.lst (prsD l m)))) := rfl
end Dl
namespace Ml
open PySem PySem.Spec PyProof.Rows L2 Dl LamX
section
variable {X : Cx} {T : Tbs} {W : WX} {a b : Expr} {p p2 pos pos2 : Pos}
theorem mq_listZip {da db : ME} {fa fb : Bool} (hc : X.calm = true) (hg : Gl X "list") (hm : X.mg "list" = none) (hg2 : Gl X "zip") (hm2 : X.mg "zip" = none) (ha : PE X a (LM X.K T W fa da)) (hb : PE X b (LM X.K T W fb db))
    (he : starEach [a, b] X.env = (false, eval a X.env) :: starEach [b] X.env := by rfl) (he2 : starEach [b] X.env = (false, eval b X.env) :: starEach [] X.env := by rfl) (hpl2 : (backTo pos2 (starEach [b] X.env)).any (·.1) = false := by rfl)
    (hs : starEach [.Call (.Name "zip" p2) [a, b] [] pos2] X.env = (false, eval (.Call (.Name "zip" p2) [a, b] [] pos2) X.env) :: starEach [] X.env := by rfl) (hpl : (backTo pos (starEach [] X.env)).any (·.1) = false := by rfl) :
    PE X (LZip p p2 pos pos2 a b) (LM X.K T W true (mOp fLZ da db)) := imE (pe_listZip hc hg hm hg2 hm2 (pa_cons ha (pa_cons hb pa_nil he2) he) he hpl2 hs hpl) (lm_op rel_listZip)
end
end Ml
/-! Sl11: enumerate(x) of a list, a tuple, a text. -/
namespace PySem
theorem Sl_newEnum {v : Value} {o : Obj} {H : Heap → Prop} (B : Begins v o H) : Meets (Builtin.«enumerate.__new__» ⟨[.type "enumerate", v], []⟩) (fun _ R s => H s.heap ∧ R (.ok (.ret (.ref (s.heap.push o).objs.size)))
    { s with heap := (s.heap.push o).push { cls := .type "enumerate", data := .fields #[.none, .bool false, .ref s.heap.objs.size, rawInt 0, .none, .none] } }) := .of_wp fun prog w A R s h => by
    obtain ⟨hp, g, d, tk, os⟩ := s
    obtain ⟨h1, h⟩ := h
    have hsub := sub_enumerate
    have q1 : ∀ {A2 : Around} {E : Value → Shared → Prop} {Q : Value → Shared → Prop}, Q (.ref hp.objs.size) ⟨hp.push o, g, d, tk, os⟩ → wpAny (model prog w) A2 (pyIter v) Q E ⟨hp, g, d, tk, os⟩ := fun q => B.iter prog w _ _ ⟨hp, g, d, tk, os⟩ _ h1 q
    wp_walk using q1
    refine wpAny_stack_any fun st => wpAny_pure ?_
    split
    · rename_i c _ _ _ _ _
      cases (c == Value.type "enumerate")
      all_goals (wp_walk using q1; exact ⟨_, rfl, h⟩)
    · wp_walk using q1
      exact ⟨_, rfl, h⟩
end PySem
namespace Sl
open PySem PySem.Spec PyProof.Rows L2 Dl
section
variable {prog : Program} {w : World} {A : Around} {E : Value → Shared → Prop} {s : Shared}
theorem enum_begin {v : Value} {o : Obj} {H : Heap → Prop} {Q : Value → Shared → Prop} (B : Begins v o H) (h1 : H s.heap)
    (h : ∀ h2, IsEnum h2 (s.heap.objs.size + 1) s.heap.objs.size 0 .none → h2.get? s.heap.objs.size = some o → (∀ b u, s.heap.get? b = some u → h2.get? b = some u) → Q (.ref (s.heap.objs.size + 1)) { s with heap := h2 }) :
    wpAny (model prog w) A (call (.type "enumerate") [v]) Q E s := by
  refine callType_new F.called_enumerate (by decide) (F.typeCall_enumerate_1 _) (F.newCall_enumerate_1 _) (fun obj => F.args_object_init_2 obj _) F.entry_enumerate_new (Sl_newEnum B) ⟨h1, ?_⟩
  have hz : (s.heap.push o).objs.size = s.heap.objs.size + 1 := Heap.size_push ..
  show _ ∧ _
  rw [hz]
  have he : IsEnum ((s.heap.push o).push { cls := .type "enumerate", data := .fields #[.none, .bool false, .ref s.heap.objs.size, rawInt 0, .none, .none] }) (s.heap.objs.size + 1) s.heap.objs.size 0 .none := by
    have q := Heap.get?_push_size (s.heap.push o) (o := { cls := .type "enumerate", data := .fields #[.none, .bool false, .ref s.heap.objs.size, rawInt 0, .none, .none] }) rfl
    rw [hz] at q
    exact q
  exact ⟨⟨_, he, rfl⟩, h _ he (Heap.get?_push_of_some _ (Heap.get?_push_size _ B.free)) fun b u x => Heap.get?_push_of_some _ (Heap.get?_push_of_some _ x)⟩
end
end Sl
namespace Dl
open PySem PySem.Spec PyProof.Rows L2
/-- enumerate, as it stands at each turn -/
def IteS (K : PySem.W.Frag) (a : Sk) : It :=
  ⟨fun i H => ∃ (xs : List V) (x : V), a.has K H xs ∧ xs[i]? = some x,
    fun i H v H2 => ∃ T x, v = .ref T ∧ H T = none ∧ H2 = upd H T (.tup [.int (i : Nat), x]) ∧ ∀ xs, a.has K H xs → xs[i]? = some x,
    fun i H => ∃ xs : List V, a.has K H xs ∧ i = xs.length⟩
theorem turn_enumS {P : Program} {w : World} {K : PySem.W.Frag} {elts : List Expr} {kk : Nat} {tpos : Pos} {a : Sk} {e it : Addr} (hei : e ≠ it) (n1 : it ∉ a.base) (n2 : e ∉ a.base) :
    Turn P w K (.Tuple elts kk tpos) (IteS K a) [e, it] e (fun i h => (∃ old, IsEnum h e it ((i : Nat) : Int) old) ∧ a.at_ it i h) where
  mem := by simp
  obj := fun i h st b hb => by
    obtain ⟨⟨old, he⟩, hi⟩ := st
    have z : b = e ∨ b = it := by simpa using hb
    rcases z with z | z
    · rw [z]; exact ⟨_, he, fun v q => nomatch q⟩
    · rw [z]; exact Sk.at_obj hi
  keep := fun i h h2 st k => by
    obtain ⟨⟨old, he⟩, hi⟩ := st
    exact ⟨⟨old, k e (by simp) _ he⟩, Sk.at_keep hi fun o q => k it (by simp) o q⟩
  item := by
    intro X hP hw hK hc i pins s σ H E I hf st hg
    subst hP hw hK
    obtain ⟨⟨old, he⟩, hi⟩ := st
    obtain ⟨xs, x, hq, hx⟩ := hg
    obtain ⟨m1, P1, St1, D1, e1, st1, bk1, vl1⟩ := Sk.draws I hc hq hi n1
    subst e1
    have hel : e < s.heap.objs.size := Heap.lt_size he
    have hef : e ∉ it :: a.base := fun z => (List.mem_cons.mp z).elim hei n2
    refine wpAny_pyNext_enum_itemD D1 he st1 (List.getElem?_eq_some_iff.mp hx).1 hei hef fun u h2 tk p1 ho hs hT hsz hk => ?_
    obtain ⟨x2, hx2, ru⟩ := vl1 i u p1
    rw [hx] at hx2
    cases hx2
    refine ⟨_, rfl, wpAny_letOwnedTupleGo_enum (s := { s with heap := h2, toks := tk + 1 }) ho fun h3 he3 sb => ?_⟩
    have hT2 : h3.get? s.heap.objs.size = some { cls := .type "tuple", data := .seq #[.int i tk, u] } := (sb.2 _ (Nat.ne_of_gt hel)).trans hT
    have new : ObjOk X.prog X.w (upd H s.heap.objs.size (.tup [.int (i : Nat), x])) h3 s.heap.objs.size (.tup [.int (i : Nat), x]) := ⟨by show 2 ≤ sizeLine; decide, [.int i tk, u], .cons ⟨_, rfl⟩ (.cons ru .nil), ⟨_, hT2, rfl, _, rfl⟩⟩
    have I1 : Inv X pins σ (upd H s.heap.objs.size (.tup [.int (i : Nat), x])) { s with heap := h3, toks := tk + 1 } :=
      I.turnedNew (t' := tk + 1) (ch := [e, it]) (fun b ob hb q => (sb.2 b (fun z => hb (by simp [z]))).trans (hk b ob (fun z => hb (by simp [z])) (fun z => hb (by simp [z])) q)) hf (Nat.le_refl _) new
    refine ⟨.ref s.heap.objs.size, _, I1, rfl, ⟨_, x, rfl, I.hok.fresh (Nat.le_refl _), rfl, fun ys hy => by rw [Sk.inj I hy hq]; exact hx⟩, ⟨⟨u, ?_⟩, Sk.at_keep (bk1 _ _ hs) fun o q => (sb.2 it (Ne.symm hei)).trans q⟩, fun b hb => ?_⟩
    · rw [show ((i + 1 : Nat) : Int) = (i : Int) + 1 by omega]
      exact he3
    · have lt : b < s.heap.objs.size := by
        have z : b = e ∨ b = it := by simpa using hb
        rcases z with z | z
        · rw [z]; exact hel
        · rw [z]
          obtain ⟨_, q, _⟩ := Sk.at_obj hi
          exact Heap.lt_size q
      rw [upd_ne (Nat.ne_of_lt lt)]
      exact (hf b hb).1
  done := by
    intro X hP hw hK hc i pins s σ H E I hf st hg
    subst hP hw hK
    obtain ⟨⟨old, he⟩, hi⟩ := st
    obtain ⟨xs, hq, hx⟩ := hg
    obtain ⟨m1, P1, St1, D1, e1, st1, bk1, vl1⟩ := Sk.draws I hc hq hi n1
    subst e1 hx
    exact wpAny_pyNext_enum_endD D1 he st1 fun h2 eb => ⟨rfl, I.turnedL (t' := s.toks) (ch := [e, it]) (fun b o hb q => eb b o (fun z => hb (by simp [z])) q) hf⟩
  self := fun A i s Q E st h => let ⟨⟨_, he⟩, _⟩ := st; wpAny_pyIter_enum he h
def iEnumS (K : PySem.W.Frag) (ta : TA) : TI := fun σ H R => ta σ H fun vs H1 => ∃ (a : Sk) (xs : List V), vs = [a.v] ∧ a.has K H1 xs ∧ R (IteS K a) H1
theorem pi_enumS {X : Cx} {e : Expr} {ta : TA} {p pos tpos : Pos} {elts : List Expr} {kk : Nat} (hg : Gl X "enumerate") (hm : X.mg "enumerate" = none) (ha : PA X [e] ta) (hs : starEach [e] X.env = [(false, eval e X.env)] := by rfl) :
    PI X (.Tuple elts kk tpos) (.Call (.Name "enumerate" p) [e] [] pos) (iEnumS X.K ta) := by
  refine ⟨fun pins s σ H R I h => ?_⟩
  refine Call_ (ld_blt I hg hm boot_enumerate (PyProof.Rows.callWith_type1 (thn (ha.run pos pins s σ H _ I h) fun us s1 ⟨vs, H1, I1, r1, q1⟩ => ?_) hs rfl))
  obtain ⟨a, xs, ex, hq, q⟩ := q1
  subst ex
  cases r1 with
  | cons r rr =>
    cases rr
    obtain ⟨o1, G1, B1, g1, at1, lt1⟩ := Sk.begins I1 hq r
    refine Sl.enum_begin B1 g1 fun h2 he hit hk => wpAny_pyIter_enum he ?_
    have I2 : Inv X pins σ H1 { s1 with heap := h2 } := I1.kept (t' := s1.toks) hk
    refine ⟨s1.heap.objs.size + 1, [s1.heap.objs.size + 1, s1.heap.objs.size], _, _, H1, rfl, I2, turn_enumS (Nat.succ_ne_self _) (fun z => Nat.lt_irrefl _ (lt1 _ z)) (fun z => absurd (lt1 _ z) (Nat.not_lt.mpr (Nat.le_succ _))), ⟨⟨.none, he⟩, at1 _ _ hit⟩, fun b hb => ?_, q⟩
    have z : b = s1.heap.objs.size + 1 ∨ b = s1.heap.objs.size := by simpa using hb
    have hle : s1.heap.objs.size ≤ b := by
      rcases z with z | z
      · rw [z]; exact Nat.le_add_right _ _
      · rw [z]; exact Nat.le_refl _
    exact I1.fpOk hle (I1.hok.fresh hle)
/-- each thing with its number -/
def enumD (l : List D) : List D := l.zipIdx.map fun p => .tup [.int (p.2 : Nat), p.1]
theorem enumD_get {l : List D} {i : Nat} {x : D} (h : (enumD l)[i]? = some x) : ∃ d, l[i]? = some d ∧ x = .tup [.int (i : Nat), d] := by
  unfold enumD at h
  rw [List.getElem?_map, List.getElem?_zipIdx] at h
  cases e : l[i]? with
  | none => rw [e] at h; cases h
  | some d => rw [e] at h; exact ⟨d, rfl, by simpa using h.symm⟩
theorem enumD_len (l : List D) : (enumD l).length = l.length := by unfold enumD; rw [List.length_map, List.length_zipIdx]
def dEnum (da : DA) : DI := fun xc r P => da xc r fun ds => match ds with
  | [x] => onO (itD x) fun a => P (enumD a)
  | _ => False
theorem itok_enum {K : PySem.W.Frag} {B H : Hp} {src : Addr → Prop} {k : Sk} {vs : List V} {ds : List D} (h : ∀ H2, Kp B H2 → k.has K H2 vs) (r : RepL K B vs ds) : ItOk K (IteS K k) (enumD ds) B H src := by
  intro B2 H2 i kb kh _
  have g := h H2 (kb.trans kh)
  have l := r.length
  refine ⟨fun d hd => ?_, fun hle => ⟨vs, g, by rw [enumD_len] at hle; omega⟩⟩
  obtain ⟨d, hd2, rfl⟩ := enumD_get hd
  obtain ⟨x, hx, rx⟩ := r.get hd2
  refine ⟨⟨vs, x, g, hx⟩, fun v H3 yl => ?_⟩
  obtain ⟨T, x2, rfl, hT, rfl, f1⟩ := yl
  have f := f1 vs g
  rw [hx] at f
  cases f
  exact ⟨_, .new kh hT, .tup (.inl (.inl upd_same)) (.cons (.int _) (.cons (rx.mono (kb.trans (Kp.new (kh.none hT)))) .nil))⟩
section
variable {X : Cx} {W : WX}
theorem qi_enum {e : Expr} {da : DA} {p pos tpos : Pos} {elts : List Expr} {kk : Nat} (hg : Gl X "enumerate") (hm : X.mg "enumerate" = none) (ha : PA X [e] (LA X.K W da)) (hs : starEach [e] X.env = [(false, eval e X.env)] := by rfl) :
    PI X (.Tuple elts kk tpos) (.Call (.Name "enumerate" p) [e] [] pos) (LI X.K W (dEnum da)) := by
  refine imI (pi_enumS hg hm ha hs) fun s H R ⟨B, r, xc, P, k, en, h, hx, hq⟩ => ⟨B, r, xc, _, k, en, h, hx, fun vs ds H1 B1 z rl q => ?_⟩
  split at q
  · rename_i dx
    obtain ⟨a, ea, q⟩ := onO_elim q
    cases rl with
    | cons rx rl =>
      cases rl
      obtain ⟨k1, e1, v1, h1, r1⟩ := sk_of rx ea
      subst e1
      exact ⟨k1, v1, rfl, h1 _ z.sub, hq _ _ H1 B1 (fun _ => False) z (fun _ w => w.elim) (itok_enum h1 r1) q⟩
  · exact q.elim
end
end Dl
namespace Ml
open PySem PySem.Spec PyProof.Rows L2 Dl LamX
section
variable {X : Cx} {T : Tbs} {W : WX}
def mEnum (da : MA) : MI := fun xc r S P => da xc r S fun ds S1 => match ds with
  | [x] => onO (itD x) fun a => P (enumD a) none S1
  | _ => False
theorem mqi_enum {e : Expr} {da : MA} {p pos tpos : Pos} {elts : List Expr} {kk : Nat} (hg : Gl X "enumerate") (hm : X.mg "enumerate" = none) (ha : PA X [e] (LMA X.K T W da)) (hs : starEach [e] X.env = [(false, eval e X.env)] := by rfl) :
    PI X (.Tuple elts kk tpos) (.Call (.Name "enumerate" p) [e] [] pos) (LMI X.K T W (mEnum da)) := by
  refine imI (pi_enumS hg hm ha hs) fun s H R ⟨B, r, S, xc, P, g, h, hx, hq⟩ => ⟨B, r, S, xc, _, g, h, hx, fun vs ds H1 B1 S1 z rl q => ?_⟩
  split at q
  · rename_i dx
    obtain ⟨a, ea, q⟩ := onO_elim q
    cases rl with
    | cons rx rl =>
      cases rl
      obtain ⟨k1, e1, v1, h1, r1⟩ := sk_of rx ea
      subst e1
      have up : ItM X.K (IteS X.K k1) (enumD a) B1 H1 S1 (fun _ => False) none := fun B2 H2 S2 i k1 k2 _ hs2 _ => itok_enum (src := fun _ => False) (H := H1) h1 r1 B2 H2 i k1 k2 hs2
      exact ⟨k1, v1, rfl, h1 _ z.sub, hq _ _ none H1 B1 S1 (fun _ => False) z (fun _ w => w.elim) up q⟩
  · exact q.elim
/-! ### x.pop(), x.pop(k) of a cell -/
/-- something that is a cell -/
def asObj (P : Addr → Prop) : D → Prop
  | .obj p => P p
  | _ => False
theorem asObj_elim {P : Addr → Prop} {d : D} (h : asObj P d) : ∃ p, d = .obj p ∧ P p := by
  cases d <;> first | exact ⟨_, rfl, h⟩ | exact h.elim
def isLst (S : Sto) (p : Addr) : Prop := ∃ l, S p = some (.ct (.lst l))
def popC (S : Sto) (p : Addr) (P : Val → Sto → Prop) : Prop := match S p with
  | some (.ct (.lst l)) => onO (l[l.length - 1]?) fun d => P (.dat d) (up S p (.ct (.lst l.dropLast)))
  | _ => False
def popAtC (S : Sto) (p : Addr) (i : Int) (P : Val → Sto → Prop) : Prop := match S p with
  | some (.ct (.lst l)) => (-(2 ^ 63) ≤ i ∧ i < 2 ^ 63) ∧ onO (seqIndex? i l.length) fun k => onO (l[k]?) fun d => P (.dat d) (up S p (.ct (.lst (l.eraseIdx k))))
  | _ => False
/-- x.pop() -/
def mPop (da : ME) : ME := fun xc r S P => da xc r S fun x S1 => asObj (fun p => popC S1 p P) x.d
/-- x.pop(i) -/
def mPopAt (da db : ME) : ME := fun xc r S P => da xc r S fun x S1 => asObj (fun p => isLst S1 p ∧ db xc r S1 fun y S2 => asI (fun i => popAtC S2 p i P) y.d) x.d
theorem RepL.dropLast {K : PySem.W.Frag} {B : Hp} : ∀ {vs : List V} {ds : List D}, RepL K B vs ds → RepL K B vs.dropLast ds.dropLast
  | _, _, .nil => .nil
  | _, _, .cons h .nil => .nil
  | _, _, .cons h (.cons h2 r) => .cons h (RepL.dropLast (.cons h2 r))
theorem RepL.eraseIdx {K : PySem.W.Frag} {B : Hp} : ∀ {vs : List V} {ds : List D} (k : Nat), RepL K B vs ds → RepL K B (vs.eraseIdx k) (ds.eraseIdx k)
  | _, _, _, .nil => .nil
  | _, _, 0, .cons _ r => r
  | _, _, k + 1, .cons h r => .cons h (RepL.eraseIdx k r)
/-- a cell is written within an expression -/
theorem cell_writeM {K : PySem.W.Frag} {B H : Hp} {S : Sto} {p : Addr} {c c2 : Ct} {o : HO} (kb : Kp B H) (st : StRep K B H S) (h : S p = some (.ct c)) (w : RepC K B (upd H p o) p c2) : SM K T B H S B (upd H p o) (up S p (.ct c2)) := by
  obtain ⟨nb, q⟩ := st p _ h
  obtain ⟨o1, ho, pl, px⟩ := q.has
  have ne : ∀ {a : Addr}, S a = none → a ≠ p := fun z e => by subst e; rw [h] at z; cases z
  refine ⟨.refl B, kb.upd nb, fun a u hu t na ms => ?_, fun a φ hu => ?_, fun n t q hq => ?_, fun _ n => n, fun a u hu => ?_, fun a d hd => ?_⟩
  · rw [upd_ne (ne ms), up_ne (ne ms)]
    exact ⟨hu, na, ms⟩
  · have n1 : a ≠ p := fun e => by subst e; rw [ho] at hu; cases hu; exact px φ rfl
    rw [upd_ne n1]
    exact hu
  · obtain ⟨ps, h1, h2, h3⟩ := t q hq
    have n1 : q.1 ≠ p := fun e => by rw [e, ho] at h1; cases h1; exact pl _ rfl
    refine ⟨ps, by rw [upd_ne n1]; exact h1, h2, fun pos cv hc => ?_⟩
    obtain ⟨c1, e1, e2⟩ := h3 pos cv hc
    have n2 : c1 ≠ p := fun e => by subst e; rw [ho] at e2; cases e2; exact px _ rfl
    exact ⟨c1, e1, by rw [upd_ne n2]; exact e2⟩
  · by_cases e : a = p
    · subst e; exact ⟨o, upd_same⟩
    · rw [upd_ne e]; exact ⟨u, hu⟩
  · by_cases e : a = p
    · subst e
      rw [up_same] at hd
      cases hd
      exact ⟨nb, w⟩
    · rw [up_ne e] at hd
      obtain ⟨n, q⟩ := st a d hd
      exact ⟨n, q.move (.refl B) fun u hu => by rw [upd_ne e]; exact hu⟩
theorem obj_at {K : PySem.W.Frag} {B H : Hp} {S : Sto} {p : Addr} {l : List D} {x : V} {vx : Val} (st : StRep K B H S) (rx : RepV K B H x vx) (ed : vx.d = .obj p) (e : S p = some (.ct (.lst l))) : x = .ref p ∧ ∃ vs, H p = some (.lst vs) ∧ RepL K B vs l := by
  obtain ⟨n, vs, hv, rl⟩ := st p _ e
  cases vx with
  | tmp c => cases c <;> cases ed
  | dat d =>
    cases (show d = .obj p from ed)
    cases rx
    exact ⟨rfl, vs, hv, rl⟩
theorem mq_pop {o : Expr} {da : ME} {f : Bool} {p2 p3 : Pos} (h : PE X (.Call (.Attribute o "pop" p2) [] [] p3) (tBM0 X.K "list" rPop (LM X.K T W f da))) : PE X (.Call (.Attribute o "pop" p2) [] [] p3) (LM X.K T W true (mPop da)) := by
  refine imE h fun s H Q ⟨B, r, S, xc, P, g, h, hx, hq⟩ => ⟨B, r, S, xc, _, g, h, hx, fun x vx H1 B1 S1 z1 rx _ q => ?_⟩
  obtain ⟨p, ed, q⟩ := asObj_elim q
  unfold popC at q
  split at q
  · rename_i l e
    obtain ⟨d, hd, q⟩ := onO_elim q
    have g1 := g.step z1
    obtain ⟨rfl, vs, hv, rl⟩ := obj_at g1.st rx.1 ed e
    obtain ⟨v, hv2, rv⟩ := rl.get hd
    refine ⟨.inl ⟨rfl, vs, .inl (.inl hv)⟩, p, vs, v, rfl, rfl, hv, by rw [rl.length]; exact hv2, ?_⟩
    exact hq _ (.dat d) _ B1 _ (z1.trans (cell_writeM (T := T) (o := .lst vs.dropLast) (c2 := .lst l.dropLast) g1.kp g1.st e ⟨_, upd_same, RepL.dropLast rl⟩)) (.dat rv) (fun _ => Fr.dat) q
  · exact q.elim
theorem mq_popAt {o j : Expr} {da db : ME} {f f2 : Bool} {p2 p3 : Pos} (h : PE X (.Call (.Attribute o "pop" p2) [j] [] p3) (tBM X.K "list" rPopAt (LM X.K T W f da) (tCons (LM X.K T W f2 db) tNil))) : PE X (.Call (.Attribute o "pop" p2) [j] [] p3) (LM X.K T W true (mPopAt da db)) := by
  refine imE h fun s H Q ⟨B, r, S, xc, P, g, h, hx, hq⟩ => ⟨B, r, S, xc, _, g, h, hx, fun x vx H1 B1 S1 z1 rx _ q => ?_⟩
  obtain ⟨p, ed, q⟩ := asObj_elim q
  have g1 := g.step z1
  obtain ⟨⟨l0, e0⟩, q⟩ := q
  obtain ⟨rfl, vs0, hv0, _⟩ := obj_at g1.st rx.1 ed e0
  refine ⟨.inl ⟨rfl, vs0, .inl (.inl hv0)⟩, B1, r, S1, xc, _, g1, q, hx.on z1, fun y vy H2 B2 S2 z2 ry _ q => ?_⟩
  have g2 := g1.step z2
  obtain ⟨i, ei, q⟩ := asI_elim q
  have ey := rv_int ry.1 ei
  subst ey
  unfold popAtC at q
  split at q
  · rename_i l e
    obtain ⟨⟨b1, b2⟩, q⟩ := q
    obtain ⟨k, hk, q⟩ := onO_elim q
    obtain ⟨d, hd, q⟩ := onO_elim q
    obtain ⟨n, vs, hv, rl⟩ := g2.st p _ e
    obtain ⟨v, hv2, rv⟩ := rl.get hd
    refine ⟨p, vs, i, k, v, rfl, rfl, hv, b1, b2, by rw [rl.length]; exact hk, hv2, ?_⟩
    exact hq _ (.dat d) _ B2 _ ((z1.trans z2).trans (cell_writeM (T := T) (o := .lst (vs.eraseIdx k)) (c2 := .lst (l.eraseIdx k)) g2.kp g2.st e ⟨_, upd_same, RepL.eraseIdx k rl⟩)) (.dat rv) (fun _ => Fr.dat) q
  · exact q.elim
/-! ### a, b = e -/
theorem SMS.names {K : PySem.W.Frag} {B H : Hp} {S : Sto} {s s' : L2.St} {r r' : DEnv} (g : Good K T B H s r S) (en : EnvRep K B H s' r') (ow : ∀ a, Owns s' r' a → Owns s r a) : SMS K T B H S s r B H S s' r' :=
  ⟨.refl B, fun a o h t n m w => ⟨h, n, m, fun q => w (ow a q)⟩, fun _ _ h => h, fun _ o h => ⟨o, h⟩, fun a c h o => g.dj a c h (ow a o), g.env en ow⟩
def mAsgT (de : ME) (dg : DG) : MS := fun xc E r S => de xc r S fun x S1 => asDM (fun d S2 => dg d r fun r2 => E.nx r2 S2) x S1
theorem mqs_asgT {tg e : Expr} {pos : Pos} {de : ME} {dg : DG} {vs : List Nat} (he : PE X e (LM X.K T W true de)) (hg : PG X tg (LG X.K vs dg)) (hs : swapsWithSole [tg] e pos.line X.env = pure false := by rfl) (hw : swappedStores [tg] e X.env = pure none := by rfl)
    (h1 : (assignEach [tg] X.env).map (·.2) = [assign tg X.env] := by rfl) : PS X (.Assign [tg] e pos) (LMS X.K T W (mAsgT de dg)) := by
  refine imS (ps_asg he hg hs hw h1) fun E s H ⟨B, r, S, xc, De, g, h, hx, nx, bk, ct, rt⟩ => ⟨B, r, S, xc, _, g, h, fun cls d e H' B' S' z => hx cls d e s r H' B' S' (z.s g), fun v x H1 B1 S1 z rv fr q => ?_⟩
  have g1 := g.step z
  cases x with
  | tmp c => exact q.elim
  | dat d => exact ⟨B1, r, d, _, g1.kp, g1.en, rv.1, q, fun s' r' en' hw' ow q => nx s' r' H1 B1 S1 (SMS.trans g (z.s g) (SMS.names g1 en' ow)) q⟩
def mPar (i j : Nat) (da : MA) : MS := fun xc E r S => da xc r S fun ds S1 => match ds with
  | [a, b] => E.nx (st (st r i (some (.dat a))) j (some (.dat b))) S1
  | _ => False
theorem mqs_par {i j : Nat} {x y : Str} {a b : Expr} {da : MA} {px py pt pos : Pos} {kt : Nat} {k2 : Nat} {pt2 : Pos} (hc : X.calm = true) (hN : X.N.Nodup) (hi : X.N[i]? = some x) (hj : X.N[j]? = some y) (hij : i ≠ j)
    (hx : X.env.scope.names.lookup x = some .local) (hy : X.env.scope.names.lookup y = some .local) (ha : PA X [a, b] (LMA X.K T W da))
    (hw : swappedStores [.Tuple [.Name x px, .Name y py] kt pt] (.Tuple [a, b] k2 pt2) X.env = pure (some [x, y]) := by rfl)
    (hs : swapsWithSole [.Tuple [.Name x px, .Name y py] kt pt] (.Tuple [a, b] k2 pt2) pos.line X.env = pure false := by rfl) :
    PS X (.Assign [.Tuple [.Name x px, .Name y py] kt pt] (.Tuple [a, b] k2 pt2) pos) (LMS X.K T W (mPar i j da)) := by
  refine imS (ps_par hc hN hi hj hij hx hy ha hw hs) fun E s H ⟨B, r, S, xc, De, g, h, hx, nx, bk, ct, rt⟩ => ?_
  refine ⟨B, r, S, xc, _, g, h, fun cls d e H' B' S' z => hx cls d e s r H' B' S' (z.s g), fun vs ds H1 B1 S1 z rl q => ?_⟩
  have g1 := g.step z
  cases rl with
  | nil => exact q.elim
  | cons r1 rl =>
    cases rl with
    | nil => exact q.elim
    | cons r2 rl =>
      cases rl with
      | cons _ _ => exact q.elim
      | nil =>
        obtain ⟨en1, o1⟩ := setD (i := i) g1.en r1
        obtain ⟨en2, o2⟩ := setD (i := j) en1 r2
        exact ⟨_, _, rfl, nx _ _ H1 B1 S1 (SMS.trans g (z.s g) (SMS.names g1 en2 fun a q => o1 a (o2 a q))) q⟩
/-! ### x.append(e), x a cell -/
def appC (P : Ct → Prop) (d : D) : Ct → Prop
  | .lst l => l.length < sizeLine ∧ P (.lst (l ++ [d]))
  | _ => False
def mAppendC (i : Nat) (de : ME) : MS := fun xc E r S => match lk r i with
  | some (.dat (.obj p)) => isLst S p ∧ de xc r S fun x S1 => asDM (fun d S2 => cellC S2 p fun c => appC (fun c2 => E.nx r (up S2 p (.ct c2))) d c) x S1
  | _ => False
theorem mqs_appendC {i : Nat} {x : Str} {e : Expr} {de : ME} {p1 p2 p3 pos : Pos} (hx : PE X (.Name x p1) (tVar i)) (he : PE X e (LM X.K T W true de))
    (h : PE X (.Call (.Attribute (.Name x p1) "append" p2) [e] [] p3) (tBM X.K "list" rAppend (tVar i) (tCons (LM X.K T W true de) tNil)))
    (hs : swapsWith (.Call (.Attribute (.Name x p1) "append" p2) [e] [] p3) none pos.line X.env = pure false := by rfl) : PS X (.Expr (.Call (.Attribute (.Name x p1) "append" p2) [e] [] p3) pos) (LMS X.K T W (mAppendC i de)) := by
  refine imS (ps_expr h hs) fun E s H ⟨B, r, S, xc, De, g, h, hx, nx, bk, ct, rt⟩ => ?_
  unfold mAppendC at h
  split at h
  · rename_i p hl
    obtain ⟨⟨l0, e0⟩, h⟩ := h
    obtain ⟨v0, hp, rp⟩ := g.at_ hl
    obtain ⟨rfl, vs0, hv0, _⟩ := obj_at g.st rp.1 rfl e0
    refine ⟨.ref p, hp, .inl ⟨rfl, vs0, .inl (.inl hv0)⟩, ?_⟩
    refine ⟨B, r, S, xc, _, g, h, fun cls d e H' B' S' z => hx cls d e s r H' B' S' (z.s g), fun v x H1 B1 S1 z rv fr q => ?_⟩
    cases x with
    | tmp c => exact q.elim
    | dat d =>
      have g1 := g.step z
      obtain ⟨c, hc, q⟩ := cellC_elim q
      cases c with
      | dic l => exact q.elim
      | lst l =>
        obtain ⟨hlen, q⟩ := q
        obtain ⟨nb, vs, hv, rl⟩ := g1.st p _ hc
        have z3 := cell_write (o := .lst (vs ++ [v])) (c' := .lst (l ++ [d])) g1 hc ⟨_, upd_same, rl.append (.cons rv.1 .nil)⟩
        exact ⟨p, vs, v, rfl, rfl, hv, by rw [rl.length]; exact hlen, nx _ _ _ _ _ (SMS.trans g (z.s g) z3) q⟩
  · exact h.elim
end
section
variable {S : Sto} {p : Addr} {l : List D} {P : Val → Sto → Prop}
theorem z081 (P : Addr → Prop) (p : Addr) : asObj P (.obj p) = P p := rfl
theorem z082 (P : Ct → Prop) (d : D) (l : List D) : appC P d (.lst l) = (l.length < sizeLine ∧ P (.lst (l ++ [d]))) := rfl
theorem popC_at {d : D} {l' : List D} (e : S p = some (.ct (.lst l))) (hl : l = l' ++ [d]) (h : P (.dat d) (up S p (.ct (.lst l')))) : popC S p P := by
  subst hl
  unfold popC
  rw [e]
  exact onO_of (a := d) (by simp) (by rw [List.dropLast_concat]; exact h)
theorem popAtC_zero {d : D} {l' : List D} (e : S p = some (.ct (.lst (d :: l')))) (h : P (.dat d) (up S p (.ct (.lst l')))) : popAtC S p 0 P := by
  unfold popAtC
  rw [e]
  refine ⟨⟨by decide, by decide⟩, onO_of (a := 0) ?_ (onO_of (a := d) rfl h)⟩
  show seqIndex? 0 (l'.length + 1) = some 0
  unfold seqIndex?
  simp
end
end Ml
/-! Sl12: range with a step. -/
namespace Dl
open PySem PySem.Spec PyProof.Rows L2
def stepD (lo c : Int) (n : Nat) : List D := (List.range n).map fun i => D.int (lo + (i : Nat) * c)
theorem stepD_get {lo c : Int} {n i : Nat} {x : D} (h : (stepD lo c n)[i]? = some x) : x = .int (lo + (i : Nat) * c) ∧ i < n := by
  unfold stepD at h
  rw [List.getElem?_map] at h
  obtain ⟨k, hk, rfl⟩ := Option.map_eq_some_iff.mp h
  have hl := (List.getElem?_eq_some_iff.mp hk).1
  rw [List.length_range] at hl
  rw [List.getElem?_range hl] at hk
  cases hk
  exact ⟨rfl, hl⟩
theorem stepD_len (lo c : Int) (n : Nat) : (stepD lo c n).length = n := by unfold stepD; rw [List.length_map, List.length_range]
theorem itok_step {K : PySem.W.Frag} {lo c : Int} {n : Nat} {B H : Hp} {src : Addr → Prop} : ItOk K (Itc lo c n) (stepD lo c n) B H src := by
  intro B2 H2 i k1 k2 hs
  refine ⟨fun d hd => ?_, fun hn => ?_⟩
  · obtain ⟨rfl, hl⟩ := stepD_get hd
    refine ⟨hl, fun x H3 z => ?_⟩
    obtain ⟨e2, rfl⟩ := z
    subst e2
    exact ⟨B2, .refl k2, .int _⟩
  · rw [stepD_len] at hn
    exact Nat.le_of_eq hn
def dRng3 (da : DA) : DI := fun xc r P => da xc r fun ds => match ds with
  | [.int a, .int b, .int c] => ∃ n, RgC a b c n ∧ P (stepD a c n)
  | _ => False
section
variable {X : Cx} {W : WX}
theorem qi_rng3 {tg a b c : Expr} {p pos : Pos} {da : DA} (hg : Gl X "range") (hm : X.mg "range" = none) (ha : PA X [a, b, c] (LA X.K W da))
    (hs : starEach [a, b, c] X.env = (false, eval a X.env) :: starEach [b, c] X.env := by rfl) (hpl : (backTo pos (starEach [b, c] X.env)).any (·.1) = false := by rfl) :
    PI X tg (.Call (.Name "range" p) [a, b, c] [] pos) (LI X.K W (dRng3 da)) := by
  refine imI (pi_range3 hg hm ha hs hpl) fun s H R ⟨B, r, xc, P, k, en, h, hx, hq⟩ => ⟨B, r, xc, _, k, en, h, hx, fun vs ds H1 B1 s1 rl q => ?_⟩
  split at q
  · rename_i i j m
    obtain ⟨n, rg, q⟩ := q
    cases rl with
    | cons h1 rl =>
      cases rl with
      | cons h2 rl =>
        cases rl with
        | cons h3 rl =>
          cases rl
          cases h1
          cases h2
          cases h3
          exact ⟨i, j, m, n, rfl, rg, hq _ _ H1 B1 (fun _ => False) s1 (fun _ z => z.elim) itok_step q⟩
  · exact q.elim
end
/-- range(0, n, 2) -/
theorem rgc_two {n : Int} (h0 : 0 ≤ n) (h1 : n < 100000) : RgC 0 n 2 ((n + 1) / 2).toNat := by
  have e : Builtin.Range.rangeSize 0 n 2 = (n + 1) / 2 := by
    unfold Builtin.Range.rangeSize
    rw [if_pos (by decide)]
    split <;> omega
  refine ⟨by decide, by decide, ?_, by rw [e]; omega⟩
  unfold Builtin.Range.small
  rw [e]
  simp only [Builtin.Range.rangeFitsLong, Bool.and_eq_true, Bool.or_eq_true, decide_eq_true_eq, beq_iff_eq, show ((2 : Int) > 0) by decide, if_true]
  omega
end Dl
/-! Sl13: with a store: a.join(xs), x.update(e), x[i] = e of a local's own list or dict. -/
namespace Dl
open PySem PySem.Spec PyProof.Rows L2
def rJoinS (K : PySem.W.Frag) : V → List V → Hp → VK → Prop := fun x xs H Q => ∃ a p, ∃ ys : List Str, x = .str a ∧ xs = [.ref p] ∧ (SqL K H p (ys.map V.str) ∨ SqT K H p (ys.map V.str)) ∧ (ys.map (·.length)).sum + ys.length * a.length ≤ 16777216 ∧ Q (.str (Txt.join a ys)) H
theorem rel_joinS {K : PySem.W.Frag} : RelM K (rJoinS K) fJoin := by
  intro B H x y vx vy P Q k rx ry h a
  unfold fJoin fJoinD at h
  split at h
  · rename_i u l e1 e2
    obtain ⟨ys, hy, h⟩ := onO_elim h
    rw [rv_str rx e1]
    obtain ⟨p, vs, rfl, hp, rl⟩ := rv_lst k ry e2
    have ev := strs_rep rl hy
    subst ev
    exact ⟨u, p, ys, rfl, rfl, .inl (.inl (.inl hp)), h.1, a.dat k (.str _) h.2⟩
  · rename_i u l e1 e2
    obtain ⟨ys, hy, h⟩ := onO_elim h
    rw [rv_str rx e1]
    obtain ⟨p, vs, rfl, _, hp, rl⟩ := rv_tup k ry e2
    have ev := strs_rep rl hy
    subst ev
    exact ⟨u, p, ys, rfl, rfl, .inr hp, h.1, a.dat k (.str _) h.2⟩
  · exact h.elim
end Dl
namespace Ml
open PySem PySem.Spec PyProof.Rows L2 Dl LamX
section
variable {X : Cx} {T : Tbs} {W : WX}
/-- o.m(e) of a text o -/
def mM1 (f : F2) (da db : ME) : ME := fun xc r S P => da xc r S fun x S1 => asS (fun _ => db xc r S1 fun y S2 => f x y fun z => P z S2) x.d
theorem lm_m1 {rr : V → List V → Hp → VK → Prop} {f : F2} {da db : ME} {fa fb : Bool} (hr : RelM X.K rr f) (s : L2.St) (H : Hp) (Q : VK) (h : LM X.K T W true (mM1 f da db) s H Q) : tM1 rr (LM X.K T W fa da) (LM X.K T W fb db) s H Q := by
  obtain ⟨B, r, S, xc, P, g, h, hx, hq⟩ := h
  refine ⟨B, r, S, xc, _, g, h, hx, fun x vx H1 B1 S1 z1 rx _ q => ?_⟩
  obtain ⟨u, e, q⟩ := asS_elim q
  refine ⟨⟨u, rv_str rx.1 e⟩, B1, r, S1, xc, _, g.step z1, q, hx.on z1, fun y vy H2 B2 S2 z2 ry _ q2 => ?_⟩
  have z := z1.trans z2
  have g2 := g.step z
  exact hr B2 H2 x y vx vy _ Q z2.sub (rx.step z2).1 ry.1 q2 fun v w H3 B3 s3 rv fr p => hq v w H3 B3 S2 (z.trans (s3.m g2.kp g2.st)) (RepM.fresh g2.tb g2.st rv fr) (fun _ => z.fr fr) p
theorem mq_join {o e : Expr} {apos pos : Pos} {da db : ME} {fa fb : Bool} (ho : PE X o (LM X.K T W fa da)) (he : PE X e (LM X.K T W fb db)) (hs : starEach [e] X.env = [(false, eval e X.env)] := by rfl) (hbase : attributeBase o "join" X.env (eval o X.env) = eval o X.env := by rfl) (hline : (apos.endLine == pos.line) = true := by rfl) :
    PE X (.Call (.Attribute o "join" apos) [e] [] pos) (LM X.K T W true (mM1 fJoin da db)) := imE (pe_join ho he hs hbase hline) (lm_m1 rel_joinS)
/-- x.update(e), x a local's own dict -/
def mUpdate (i : Nat) (de : ME) : MS := fun xc E r S => match lk r i with
  | some (.tmp (.dic l)) => de xc r S fun x S1 => asDic (fun m => l.length + m.length ≤ sizeLine ∧ E.nx (Dl.st r i (some (.tmp (.dic (mergeD l m))))) S1) x.d
  | _ => False
theorem mqs_update {i : Nat} {x : Str} {e : Expr} {de : ME} {p1 p2 p3 pos : Pos} (he : PE X e (LM X.K T W true de))
    (h : PE X (.Call (.Attribute (.Name x p1) "update" p2) [e] [] p3) (tBM X.K "dict" rUpdate (tVar i) (tCons (LM X.K T W true de) tNil)))
    (hs : swapsWith (.Call (.Attribute (.Name x p1) "update" p2) [e] [] p3) none pos.line X.env = pure false := by rfl) : PS X (.Expr (.Call (.Attribute (.Name x p1) "update" p2) [e] [] p3) pos) (LMS X.K T W (mUpdate i de)) := by
  refine imS (ps_expr h hs) fun E s H ⟨B, r, S, xc, De, g, h, hx, nx, bk, ct, rt⟩ => ?_
  unfold mUpdate at h
  split at h
  · rename_i l hl
    obtain ⟨p, hp, n, w⟩ := own_at g.en hl
    obtain ⟨kvs, hv, rl⟩ := id w
    refine ⟨.ref p, hp, .inr (.inr (.inl ⟨rfl, .inl ⟨_, hv⟩⟩)), ?_⟩
    refine ⟨B, r, S, xc, _, g, h, fun cls d e H' B' S' z => hx cls d e s r H' B' S' (z.s g), fun v x H1 B1 S1 z rv fr q => ?_⟩
    obtain ⟨m, em, hlen, q⟩ := asDic_elim q
    have g1 := g.step z
    obtain ⟨a, more, rfl, hm, rm⟩ := rv_dic z.sub rv.1 em
    obtain ⟨p', hp', n1, w1⟩ := own_at g1.en hl
    rw [hp] at hp'
    cases hp'
    obtain ⟨vs1, hv1, rl1⟩ := id w1
    have ne : p ≠ a := fun e => by
      subst e
      cases x with
      | dat d =>
        cases (show d = .dic m from em)
        cases rv.1 with
        | dic hb _ _ => rw [n1] at hb; cases hb
      | tmp c =>
        have := fr rfl p c rfl rfl
        rw [hv] at this
        cases this
    obtain ⟨en2, z2⟩ := own_write (o := .dK (mergeK vs1 more)) (c' := .dic (mergeD l m)) g1.kp g1.en hl hp n1 ⟨_, upd_same, RepK.merge rm rl1⟩
    exact ⟨p, a, vs1, more, rfl, rfl, hv1, hm, ne, by rw [RepK.length rl1, RepK.length rm]; exact hlen, nx _ _ _ _ S1 ((z.s g).trans g (z2.m g1 en2)) q⟩
  · exact h.elim
/-- x[i] = e, x a local's own list or dict -/
def mPutI (i : Nat) (dk de : ME) : MS := fun xc E r S => match lk r i with
  | some (.tmp c) => de xc r S fun v S1 => asDM (fun d S1 => dk xc r S1 fun k S2 => putC d (fun c' => E.nx (Dl.st r i (some (.tmp c'))) S2) c k.d) v S1
  | _ => False
theorem mqs_put (i : Nat) {x : Str} {e j : Expr} {p1 pos pos' : Pos} {dk de : ME} {f2 : Bool} (hu : X.A.units + 1 < cLine) (hx : PE X (.Name x p1) (tVar i)) (hk : PE X j (LM X.K T W f2 dk)) (he : PE X e (LM X.K T W true de))
    (ha : ∀ v, assign (.Subscript (.Name x p1) j pos') X.env v = (do
      let ov ← holding [v] (eval (.Name x p1) X.env); let iv ← holding [v, ov] (eval j X.env)
      standAt pos'; holding [v, ov, iv] (setItem ov iv v); release [v, ov, iv] []) := by intro _; rfl)
    (hs : swapsWithSole [.Subscript (.Name x p1) j pos'] e pos.line X.env = pure false := by rfl) (hw : swappedStores [.Subscript (.Name x p1) j pos'] e X.env = pure none := by rfl)
    (h1 : (assignEach [.Subscript (.Name x p1) j pos'] X.env).map (·.2) = [assign (.Subscript (.Name x p1) j pos') X.env] := by rfl) :
    PS X (.Assign [.Subscript (.Name x p1) j pos'] e pos) (LMS X.K T W (mPutI i dk de)) := by
  refine imS (ps_asg he (pg_sub hx hk (set_own hu) ha) hs hw h1) fun E s H ⟨B, r, S, xc, De, g, h, hx, nx, bk, ct, rt⟩ => ?_
  unfold mPutI at h
  split at h
  · rename_i c hl
    obtain ⟨p, hp, n, w⟩ := own_at g.en hl
    refine ⟨B, r, S, xc, _, g, h, fun cls d e H' B' S' z => hx cls d e s r H' B' S' (z.s g), fun v x H1 B1 S1 z1 rv fr q => ?_⟩
    cases x with
    | tmp c => exact q.elim
    | dat d =>
      have g1 := g.step z1
      refine ⟨.ref p, hp, B1, r, S1, xc, _, g1, q, fun cls d e H' B' S' z => hx cls d e s r H' B' S' ((z1.trans z).s g), fun y vy H2 B2 S2 z2 ry _ q2 => ?_⟩
      have z := z1.trans z2
      have g2 := g.step z
      have rv2 : Rep X.K B2 v d := Rep.mono z2.kp rv.1
      obtain ⟨p', hp', n2, w2⟩ := own_at g2.en hl
      rw [hp] at hp'
      cases hp'
      cases c with
      | lst l =>
        obtain ⟨vs, hv, rl⟩ := id w2
        unfold putC at q2
        split at q2
        · rename_i l2 j e1 e2
          cases e1
          obtain ⟨m, hm, q2⟩ := onO_elim q2
          have ey := rv_int ry.1 e2
          subst ey
          obtain ⟨en3, z3⟩ := own_write (o := .lst (vs.set m v)) (c' := .lst (l.set m d)) g2.kp g2.en hl hp n2 ⟨_, upd_same, rl.set rv2 m⟩
          exact .inl ⟨p, vs, j, m, rfl, rfl, hv, by rw [rl.length]; exact hm, nx _ _ _ _ S2 ((z.s g).trans g (z3.m g2 en3)) q2⟩
        · rename_i e1
          cases e1
        · exact q2.elim
      | dic l =>
        obtain ⟨kvs, hv, rl⟩ := id w2
        obtain ⟨kq, ek, hlen, q2⟩ := onO_elim (o := keyD vy.d) q2
        have ey := key_v ry.1 ek
        subst ey
        obtain ⟨en3, z3⟩ := own_write (o := .dK (putK kvs kq v)) (c' := .dic (putD l kq d)) g2.kp g2.en hl hp n2 ⟨_, upd_same, RepK.put rv2 rl⟩
        exact .inr ⟨p, _, rfl, DPut.k hv (by rw [RepK.length rl]; exact hlen), nx _ _ _ _ S2 ((z.s g).trans g (z3.m g2 en3)) q2⟩
  · exact h.elim
def mRng1 (da : MA) : MI := fun xc r S P => da xc r S fun ds S1 => match ds with
  | [.int n] => (-(2 ^ 62) ≤ n ∧ n < 2 ^ 62) ∧ P (rngD 0 n.toNat) none S1
  | _ => False
def mRng2 (da : MA) : MI := fun xc r S P => da xc r S fun ds S1 => match ds with
  | [.int a, .int b] => (-(2 ^ 62) ≤ a ∧ a < 2 ^ 62 ∧ -(2 ^ 62) ≤ b ∧ b < 2 ^ 62) ∧ P (rngD a (b - a).toNat) none S1
  | _ => False
theorem mqi_rng1 {tg a : Expr} {p pos : Pos} {da : MA} (hg : Gl X "range") (hm : X.mg "range" = none) (ha : PA X [a] (LMA X.K T W da)) (hs : starEach [a] X.env = [(false, eval a X.env)] := by rfl) : PI X tg (.Call (.Name "range" p) [a] [] pos) (LMI X.K T W (mRng1 da)) := by
  refine imI (pi_range1 hg hm ha hs) fun s H R ⟨B, r, S, xc, P, g, h, hx, hq⟩ => ⟨B, r, S, xc, _, g, h, hx, fun vs ds H1 B1 S1 z rl q => ?_⟩
  split at q
  · rename_i n
    cases rl with
    | cons h1 rl =>
      cases rl
      cases h1
      exact ⟨n, rfl, q.1.1, q.1.2, hq _ _ none H1 B1 S1 (fun _ => False) z (fun _ w => w.elim) (fun B2 H2 S2 i k1 k2 _ hs2 _ => itok_rng (src := fun _ => False) (H := H1) B2 H2 i k1 k2 hs2) q.2⟩
  · exact q.elim
theorem mqi_rng2 {tg a b : Expr} {p pos : Pos} {da : MA} (hg : Gl X "range") (hm : X.mg "range" = none) (ha : PA X [a, b] (LMA X.K T W da)) (hs : starEach [a, b] X.env = [(false, eval a X.env), (false, eval b X.env)] := by rfl) (hs2 : starEach [b] X.env = [(false, eval b X.env)] := by rfl) :
    PI X tg (.Call (.Name "range" p) [a, b] [] pos) (LMI X.K T W (mRng2 da)) := by
  refine imI (pi_range2 hg hm ha hs hs2) fun s H R ⟨B, r, S, xc, P, g, h, hx, hq⟩ => ⟨B, r, S, xc, _, g, h, hx, fun vs ds H1 B1 S1 z rl q => ?_⟩
  split at q
  · rename_i n m
    cases rl with
    | cons h1 rl =>
      cases rl with
      | cons h2 rl =>
        cases rl
        cases h1
        cases h2
        exact ⟨n, m, rfl, q.1, hq _ _ none H1 B1 S1 (fun _ => False) z (fun _ w => w.elim) (fun B2 H2 S2 i k1 k2 _ hs2 _ => itok_rng (src := fun _ => False) (H := H1) B2 H2 i k1 k2 hs2) q.2⟩
  · exact q.elim
end
theorem z083 (i : Nat) (de : ME) (xc : MX) (E : MEnds) (r : DEnv) (S : Sto) : mUpdate i de xc E r S = (match lk r i with
  | some (.tmp (.dic l)) => de xc r S fun x S1 => asDic (fun m => l.length + m.length ≤ sizeLine ∧ E.nx (Dl.st r i (some (.tmp (.dic (mergeD l m))))) S1) x.d
  | _ => False) := rfl
end Ml
/-! Sl14: dict(d), d.clear() of a cell. -/
namespace Dl
open PySem PySem.Spec PyProof.Rows L2
def rDictD (K : PySem.W.Frag) : List V → Hp → VK → Prop := fun xs H Q => ∃ (a : Addr) (kvs : List (Key × V)), xs = [.ref a] ∧ Rd H a (.dK kvs) ∧ ∀ p, H p = none → Q (.ref p) (upd H p (.dK kvs))
def fDictC : F1 := fun x P => asDic (fun ks => P (.tmp (.dic ks))) x.d
theorem rel_dictC {K : PySem.W.Frag} : RelC1 K (rDictD K) fDictC := by
  intro B H x vx P Q k rx h a
  obtain ⟨ks, ed, q⟩ := asDic_elim h
  obtain ⟨p, kvs, rfl, hv, rk⟩ := rv_dic k rx ed
  exact ⟨p, kvs, rfl, .of hv, fun p2 n => a (.ref p2) (.tmp (.dic ks)) _ B (.tmp k n) ⟨p2, rfl, k.none n, _, upd_same, rk⟩ (fun _ _ e _ => by cases e; exact n) q⟩
end Dl
namespace Ml
open PySem PySem.Spec PyProof.Rows L2 Dl LamX
section
variable {X : Cx} {T : Tbs} {W : WX}
def clrC (S : Sto) (p : Addr) (P : Val → Sto → Prop) : Prop := match S p with
  | some (.ct (.dic _)) => P (.dat .non) (up S p (.ct (.dic [])))
  | _ => False
theorem clrC_at {S : Sto} {p : Addr} {P : Val → Sto → Prop} {l : List (Key × D)} (e : S p = some (.ct (.dic l))) (h : P (.dat .non) (up S p (.ct (.dic [])))) : clrC S p P := by
  unfold clrC
  rw [e]
  exact h
/-- x.clear(), x a cell that is a dict -/
def mClear (da : ME) : ME := fun xc r S P => da xc r S fun x S1 => asObj (fun p => clrC S1 p P) x.d
theorem dic_at {K : PySem.W.Frag} {B H : Hp} {S : Sto} {p : Addr} {l : List (Key × D)} {x : V} {vx : Val} (st : StRep K B H S) (rx : RepV K B H x vx) (ed : vx.d = .obj p) (e : S p = some (.ct (.dic l))) : x = .ref p ∧ ∃ vs, H p = some (.dK vs) ∧ RepK K B vs l := by
  obtain ⟨n, vs, hv, rl⟩ := st p _ e
  cases vx with
  | tmp c => cases c <;> cases ed
  | dat d =>
    cases (show d = .obj p from ed)
    cases rx
    exact ⟨rfl, vs, hv, rl⟩
theorem mq_clear {o : Expr} {da : ME} {f : Bool} {p2 p3 : Pos} (h : PE X (.Call (.Attribute o "clear" p2) [] [] p3) (tBM0 X.K "dict" rDClear (LM X.K T W f da))) : PE X (.Call (.Attribute o "clear" p2) [] [] p3) (LM X.K T W true (mClear da)) := by
  refine imE h fun s H Q ⟨B, r, S, xc, P, g, h, hx, hq⟩ => ⟨B, r, S, xc, _, g, h, hx, fun x vx H1 B1 S1 z1 rx _ q => ?_⟩
  obtain ⟨p, ed, q⟩ := asObj_elim q
  unfold clrC at q
  split at q
  · rename_i l e
    have g1 := g.step z1
    obtain ⟨rfl, vs, hv, rl⟩ := dic_at g1.st rx.1 ed e
    refine ⟨.inr (.inr (.inl ⟨rfl, .inl ⟨_, hv⟩⟩)), p, vs, rfl, rfl, hv, ?_⟩
    exact hq _ (.dat .non) _ B1 _ (z1.trans (cell_writeM (T := T) (o := .dK []) (c2 := .dic []) g1.kp g1.st e ⟨_, upd_same, .nil⟩)) (.dat .non) (fun _ => Fr.dat) q
  · exact q.elim
end
end Ml
/-! Gl1: defs that are called where nothing is being shown (A.guards = some []): what repr wants. -/
namespace Gl
open PySem PySem.Spec PyProof.Rows L2 LamX
/-- a def's promise, for where nothing is being shown -/
structure FnG (P : Program) (w : World) (K : PySem.W.Frag) (mg : Str → Option Value) (base : Heap) (CX : CXT) (k : Nat) (f : Addr) (fd : FuncData) (ps : List Str) (sp : Sp) : Prop where
  len : ∀ xs H Q E, sp xs H Q E → xs.length = ps.length
  go : ∀ (A : Around) (out : List Env) (s : Shared) (H : Hp) (ar : Args) (us : List Value) (xs : List V) (Q : VK) (E : XK), A.guards = some [] → Room k A → Env0 P w K mg base A out s H →
    BindsTo s fd ar (ps.zip us) → Vals xs us → sp xs H Q E → codeAny (model P w) A (.call (.ref f) ar) (CR CX out P w H s Q E) s
section
variable {P : Program} {w : World} {K : PySem.W.Frag} {mg : Str → Option Value} {base : Heap} {CX : CXT} {k : Nat} {f : Addr} {fd : FuncData} {ps : List Str} {sp : Sp}
theorem FnG.of (F : FnOk P w K mg base CX k f fd ps sp) : FnG P w K mg base CX k f fd ps sp := ⟨F.len, fun A out s H ar us xs Q E _ => F.run A out s H ar us xs Q E⟩
theorem FnG.imp {sp' : Sp} (F : FnG P w K mg base CX k f fd ps sp) (h : ∀ xs H Q E, sp' xs H Q E → sp xs H Q E) : FnG P w K mg base CX k f fd ps sp' :=
  ⟨fun xs H Q E q => F.len xs H Q E (h _ _ _ _ q), fun A out s H ar us xs Q E gd rm en bd vl q => F.go A out s H ar us xs Q E gd rm en bd vl (h _ _ _ _ q)⟩
theorem FnG.mono {j : Nat} (F : FnG P w K mg base CX j f fd ps sp) (h : j ≤ k) : FnG P w K mg base CX k f fd ps sp := ⟨F.len, fun A out s H ar us xs Q E gd rm => F.go A out s H ar us xs Q E gd (rm.mono h)⟩
/-- from a body -/
theorem fn_ofG {name qual : Str} {params : Arguments} {body : List Stmt} {scope : Scope} {dV kV doc pm cdv ct oc : Value} {an od : Option Addr} {osl : Array (Option Value)} {N : List Str}
    (look : K.lookup f = some ⟨oc, od, .func (PySem.W.fnOf name qual params body scope dV kV doc pm an cdv ct), osl⟩) (hcode : PySem.W.codeIn K cdv qual = true) (Sc : FnScope N ps scope) (len : ∀ xs H Q E, sp xs H Q E → xs.length = ps.length)
    (hb : ∀ (A : Around) (out : List Env) (s : Shared) (H : Hp) (xs : List V) (Q : VK) (E : XK), A.guards = some [] → Room k (A.deeper (envOfC qual scope s.heap.objs.size f cdv)) → sp xs H Q E →
      ∃ t, PSs (cxOf CX P w K mg base N qual scope f cdv A out s H E) body t ∧ t { nx := fun _ H2 => Q .non H2, rt := Q } (start N xs) H) :
    FnG P w K mg base CX (k + 1) f (PySem.W.fnOf name qual params body scope dV kV doc pm an cdv ct) ps sp := by
  refine ⟨len, fun A out s H ar us xs Q E gd rm en bd vl prom => ?_⟩
  have many := len _ _ _ _ prom
  have inK : K.In s.heap := en.mod.kin.keeps fun b o z => (en.bs b o z).1
  have unbound : s.heap.NoLimit := en.mod.nolimit.keeps fun b o z => (en.bs b o z).1
  have kinds : ∀ y ∈ ps.zip us, scope.names.lookup y.1 = some .local ∨ (scope.names.lookup y.1 = some .cell ∧ ((cellsFrom (s.heap.objs.size + 1) scope.names []).lookup y.1).isSome = true) :=
    fun y hy => (Sc.par y.1 (List.of_mem_zip (a := y.1) (b := y.2) hy).1).elim .inl fun c => .inr ⟨c, PySem.W.cellsFrom_some _ _ _ (.inl c)⟩
  refine codeAny_call_function rm.depth (inK _ _ look) rfl Sc.co Sc.gen rfl (PySem.W.codeRec_of inK hcode) (bd _ _ _ _ (wpAny_newFunctionEnv_cells Sc.kind kinds fun e2 he s1 x => ?_))
  subst he
  obtain ⟨t, ht, start1⟩ := hb A out s H xs Q E gd (rm.deeper _) prom
  have J0 : Inv (cxOf CX P w K mg base N qual scope f cdv A out s H E) [] (start N xs) H s1 := inv_start Sc rm.hd en many vl x
  refine ⟨unbound.keeps x.toInCall.keep, codeAny_func (wpAny_mono (ht.run [] s1 (start N xs) H _ J0 start1) (fun fl s' q => ?_) fun _ _ z => z)⟩
  cases fl with
  | ret u =>
    obtain ⟨v, σ2, H2, J, rv, z⟩ := q
    exact ⟨v, H2, J.os, J.bare, J.base, J.hok, rv, z⟩
  | next =>
    obtain ⟨σ2, H2, J, z⟩ := q
    exact ⟨V.non, H2, J.os, J.bare, J.base, J.hok, rfl, z⟩
  | brk =>
    obtain ⟨_, _, _, z⟩ := q
    exact z.elim
  | cont =>
    obtain ⟨_, _, _, z⟩ := q
    exact z.elim
end
section
variable {X : Cx} {CX : CXT} {k : Nat} {f : Addr} {fd : FuncData} {ps : List Str} {sp : Sp} {x : Str} {p pos : Pos} {e : Expr} {es : List Expr} {ta : TA}
/-- such a def runs, from where nothing is being shown -/
theorem run_g {pins : List (Addr × Obj)} {σ : L2.St} {H : Hp} {s : Shared} {Q : VK} {E : XK} {us : List Value} {xs : List V} (F : FnG X.prog X.w X.K X.mg X.base CX k f fd ps sp) (gd : X.A.guards = some []) (rm : Room k X.A) (bd : Binds X.K fd ps []) (ps1 : PassesAt CX X σ E)
    (I : Inv X pins σ H s) (r : Vals xs us) (h : sp xs H Q E) : wpAny (model X.prog X.w) X.A (call (.ref f) us) (EP X pins σ Q) X.xe s := by
  have many : us.length = ps.length := by
    rw [← r.length]
    exact F.len _ _ _ _ h
  have b := bd s us I.kIn (by rw [List.append_nil]; exact many)
  rw [List.append_nil] at b
  refine wpAny_call (codeAny_mono (F.go X.A X.stack s H ⟨us, []⟩ us xs Q E gd rm I.env0 b r h) fun res s' q => ?_)
  cases res with
  | error e => exact ps1 pins H s e s' I q
  | ok fl => cases fl with
    | ret u => exact I.after q
    | next => exact q.elim
    | brk => exact q.elim
    | cont => exact q.elim
theorem pe_callG {E : L2.St → XK} (F : FnG X.prog X.w X.K X.mg X.base CX k f fd ps sp) (gd : X.A.guards = some []) (rm : Room k X.A) (hg : Gl X x) (hm : X.mg x = some (.ref f)) (kp : PySem.W.keepIn X.K (.ref f) = true) (bd : Binds X.K fd ps []) (px : ∀ σ, PassesAt CX X σ (E σ))
    (ha : PA X (e :: es) ta) (hdb : (x == ("__debug__" : Str)) = false := by decide) (hst : starEach (e :: es) X.env = (false, eval e X.env) :: starEach es X.env := by rfl) (hpl : (backTo pos (starEach es X.env)).any (·.1) = false := by rfl) :
    PE X (.Call (.Name x p) (e :: es) [] pos) (tCallS sp E ta) := by
  constructor
  intro pins s σ H Q I h
  refine wpAny_Call_Name_kw (ld_glob I hg hm (PySem.W.callWith_K (h₀ := X.base) I.ok.mod.kin kp (thn (ha.run pos pins s σ H _ I h) ?_) hst hpl) hdb)
  rintro us s1 ⟨xs, H1, I1, r, q⟩
  exact ⟨I1.kIn, run_g F gd rm bd (px σ) I1 r q⟩
end
/-! ### the end of a law -/
section
variable {P : Program} {w : World} {K : PySem.W.Frag} {mg mb : Str → Option Value} {s : Shared} {H : Hp} {cs : List (Addr × Addr)}
/-- what of the heap is told to the law -/
structure Told (P : Program) (w : World) (K : PySem.W.Frag) (s : Shared) (H : Hp) (cs : List (Addr × Addr)) (a : Addr) : Prop where
  tabs : ∀ p ∈ cs, H p.2 = some (.tbl #[])
  kinds : ∀ b, H b = none ∨ b ∈ cs.map (·.2) ∨ ∃ o xs, H b = some (.frz o (.lst xs))
  ok : HOk P w H s.heap
  only : ∀ b, H b ≠ none → b = a ∨ b ∈ cs.map (·.2)
  free : H a ≠ none → K.lookup a = none
theorem some_ne {α : Type} {o : Option α} {u : α} (h : o = some u) : o ≠ none := by
  rw [h]
  exact fun z => nomatch z
variable {a : Addr} {vs : List Value}
theorem Told.other (T : Told P w K s H cs a) (ha : s.heap.get? a = some { cls := .type "list", data := .seq vs.toArray }) (hT : ∀ p ∈ cs, s.heap.get? p.2 = some { cls := .none, data := .fields #[] }) {b : Addr} {o : Obj} (e : s.heap.get? b = some o)
    (n1 : ∀ us n, o.data ≠ .seq us n) (n2 : o.data ≠ .fields #[]) : H b = none := by
  cases q : H b with
  | none => rfl
  | some u =>
    rcases T.only b (some_ne q) with rfl | h
    · rw [ha] at e
      cases e
      exact absurd rfl (n1 _ _)
    · have ⟨p, hp, e0⟩ := List.mem_map.mp h
      subst e0
      rw [hT p hp] at e
      cases e
      exact absurd rfl n2
theorem Told.inK (T : Told P w K s H cs a) (KX : K.In s.heap) (nT : ∀ p ∈ cs, K.lookup p.2 = none) : K.In (hidT s.heap H) := by
  intro b o e
  refine hidT_get (KX b o e) ?_
  cases q : H b with
  | none => rfl
  | some u =>
    rcases T.only b (some_ne q) with rfl | h
    · rw [T.free (some_ne q)] at e
      cases e
    · have ⟨p, hp, e0⟩ := List.mem_map.mp h
      subst e0
      rw [nT p hp] at e
      cases e
theorem Told.ns (T : Told P w K s H cs a) (ha : s.heap.get? a = some { cls := .type "list", data := .seq vs.toArray }) (hT : ∀ p ∈ cs, s.heap.get? p.2 = some { cls := .none, data := .fields #[] }) {b : Addr} {m : Str → Option Value} (h : s.heap.Ns b m) : (hidT s.heap H).Ns b m := by
  obtain ⟨o, es, ep, e, d, r⟩ := h
  exact ⟨o, es, ep, hidT_get e (T.other ha hT e (fun us n z => by rw [d] at z; cases z) (fun z => by rw [d] at z; cases z)), d, r⟩
theorem Told.tab (T : Told P w K s H cs a) (ha : s.heap.get? a = some { cls := .type "list", data := .seq vs.toArray }) (hT : ∀ p ∈ cs, s.heap.get? p.2 = some { cls := .none, data := .fields #[] }) (C : ∀ p ∈ cs, PySem.W.CodeHd s.heap p.1 p.2) (hns : s.heap.Ns mainGlobals mg)
    (hbm : ∃ (bm : Addr) (ob : Obj), mg "__builtins__" = some (.ref bm) ∧ bm ≠ builtinsNs ∧ s.heap.get? bm = some ob ∧ ob.cls = .type "module" ∧ ob.dict = some builtinsNs ∧ ob.data = .plain) : ∀ p ∈ cs, TabB (hidT s.heap H) mg p.1 p.2 := by
  intro p hp
  have here := hT p hp
  obtain ⟨og, eg, ng, atg, dg, _⟩ := hns
  constructor
  · obtain ⟨o, us, file, tf, flags, tg, inF, text, tt, e1, c1, c2, c3, rest⟩ := C p hp
    refine ⟨o, us, file, tf, flags, tg, inF, text, tt, hidT_get e1 (T.other ha hT e1 (fun ws n z => by rw [c2] at z; cases z) fun z => ?_), c1, c2, c3, rest⟩
    rw [c2] at z
    cases z
    simp at c3
  · obtain ⟨m, ob, b1, b2, b3, b4, b5, b6⟩ := hbm
    refine ⟨m, ob, b1, b2, fun q => ?_, fun q => ?_, hidT_get b3 (T.other ha hT b3 (fun ws n z => by rw [b6] at z; cases z) fun z => by rw [b6] at z; cases z), b4, b5, b6⟩
    · rw [q, atg] at b3
      cases b3
      rw [dg] at b6
      cases b6
    · rw [q, here] at b3
      cases b3
      cases b6
  · intro z
    rw [z, here] at atg
    cases atg
    cases dg
theorem Told.env (T : Told P w K s H cs a) (ha : s.heap.get? a = some { cls := .type "list", data := .seq vs.toArray }) (hT : ∀ p ∈ cs, s.heap.get? p.2 = some { cls := .none, data := .fields #[] }) (KX : K.In s.heap) (nT : ∀ p ∈ cs, K.lookup p.2 = none)
    (hns : s.heap.Ns mainGlobals mg) (hb : s.heap.Ns builtinsNs mb) (hbb : ∀ x : Str, x ≠ "__name__" → mb x = bootBuiltins x) (hlim : s.heap.NoLimit) (hg : s.gens = #[]) : Env0 P w K mg (hidT s.heap H) callerA [] s H := by
  have lim : (hidT s.heap H).NoLimit := by
    obtain ⟨mc, l1, l2⟩ := hlim
    exact ⟨mc, T.ns ha hT l1, l2⟩
  exact ⟨rfl, ⟨T.inK KX nT, T.ns ha hT hns, ⟨mb, T.ns ha hT hb, hbb⟩, lim⟩, fun b o e => of_hidT e, Nat.le_of_eq (hidT_size _ _), trivial, fun b z => absurd (show b ∈ ([] : List Addr) from z) List.not_mem_nil, T.ok, .of_eq hg⟩
/-- what is kept behind the law -/
theorem Told.kept (T : Told P w K s H cs a) (hT : ∀ p ∈ cs, s.heap.get? p.2 = some { cls := .none, data := .fields #[] }) (C : ∀ p ∈ cs, PySem.W.CodeHd s.heap p.1 p.2) {H2 : Hp} {s2 : Shared} (un : Un (frs []) [] H H2 s.heap s2.heap) (ok2 : HOk P w H2 s2.heap) : OldK s.heap s2.heap := by
  have stay : ∀ b o, b ∉ cs.map (·.2) → s.heap.get? b = some o → s2.heap.get? b = some o := by
    intro b o nb e
    rcases T.kinds b with z | z | ⟨ob, xs, z⟩
    · exact un.keep b o e z (fun q => absurd (show b ∈ ([] : List Addr) from q) List.not_mem_nil) (by simp)
    · exact absurd z nb
    · obtain ⟨e1, _⟩ := T.ok b _ z
      obtain ⟨e2, _⟩ := ok2 b _ (un.frzs b ob _ z)
      rw [e] at e1
      cases e1
      exact e2
  have grow : ∀ p ∈ cs, ∃ more : Array Value, s2.heap.get? p.2 = some { cls := .none, data := .fields more } := by
    intro p hp
    obtain ⟨more, z⟩ := un.tbls p.2 #[] (T.tabs p hp)
    exact ⟨_, ok2 p.2 _ z⟩
  constructor
  · intro b o e
    by_cases h : b ∈ cs.map (·.2)
    · have ⟨p, hp, e0⟩ := List.mem_map.mp h
      subst e0
      obtain ⟨more, hm⟩ := grow p hp
      rw [hT p hp] at e
      cases e
      refine .inr (.inl ⟨((C p hp).tab (hT p hp)).isCodeTable, rfl, #[], more, rfl, ?_⟩)
      rw [Array.empty_append, hm]
    · exact .inl (stay b o h e)
  · intro b o e
    by_cases h : b ∈ cs.map (·.2)
    · have ⟨p, hp, e0⟩ := List.mem_map.mp h
      subst e0
      obtain ⟨more, hm⟩ := grow p hp
      exact ⟨_, hm⟩
    · exact ⟨o, stay b o h e⟩
end
section
variable {P : Program} {w : World} {K : PySem.W.Frag} {mg mb : Str → Option Value} {CX : CXT} {k : Nat} {fa a : Addr} {cs : List (Addr × Addr)} {fd : FuncData} {x : Str} {sp : Sp} {s : Shared} {vs : List Value} {ns : List Int}
/-- the law is called, where nothing is being shown -/
theorem law_callG (KX : K.In s.heap) (hns : s.heap.Ns mainGlobals mg) (hb : s.heap.Ns builtinsNs mb) (hbb : ∀ x : Str, x ≠ "__name__" → mb x = bootBuiltins x) (hlim : s.heap.NoLimit) (hg : s.gens = #[])
    (hT : ∀ p ∈ cs, s.heap.get? p.2 = some { cls := .none, data := .fields #[] }) (nT : ∀ p ∈ cs, K.lookup p.2 = none) (C : ∀ p ∈ cs, PySem.W.CodeHd s.heap p.1 p.2)
    (hbm : ∃ (bm : Addr) (ob : Obj), mg "__builtins__" = some (.ref bm) ∧ bm ≠ builtinsNs ∧ s.heap.get? bm = some ob ∧ ob.cls = .type "module" ∧ ob.dict = some builtinsNs ∧ ob.data = .plain)
    (ha : s.heap.get? a = some { cls := .type "list", data := .seq vs.toArray }) (hi : IntsAre vs ns) (hl : ns.length ≤ sizeLine) (rm : Room k callerA)
    (F : ∀ base : Heap, K.In base → base.Ns mainGlobals mg → (∀ p ∈ cs, TabB base mg p.1 p.2) → FnG P w K mg base CX k fa fd [x] sp) (bind : ∀ (s : Shared) (u : Value), BindsTo s fd ⟨[u], []⟩ [(x, u)])
    (hsp : ∀ H : Hp, (∀ c ∈ cs, H c.2 = some (.tbl #[])) → SqL K H a (ns.map V.int) → sp [.ref a] H (fun v _ => v = .bl true) fun _ _ _ => False)
    (hCX : ∀ H e s2, CX [] H s (fun _ _ _ => False) e s2 → False) :
    codeAny (model P w) callerA (.call (.ref fa) ⟨[.ref a], []⟩) (fun r s2 => r = .ok (.ret (.bool true)) ∧ OldK s.heap s2.heap ∧ s2.os = s.os ∧ AllBare s2.gens) s := by
  have rv := vals_ints hi
  have many := hi.length
  have mem : ∀ p ∈ cs, p.2 ∈ cs.map (·.2) := fun p hp => List.mem_map_of_mem hp
  have noA : a ∉ cs.map (·.2) := by
    intro z
    obtain ⟨p, hp, e⟩ := List.mem_map.mp z
    have q := hT p hp
    rw [e, ha] at q
    cases q
  have turn : ∀ H : Hp, Told P w K s H cs a → SqL K H a (ns.map V.int) → codeAny (model P w) callerA (.call (.ref fa) ⟨[.ref a], []⟩) (fun r s2 => r = .ok (.ret (.bool true)) ∧ OldK s.heap s2.heap ∧ s2.os = s.os ∧ AllBare s2.gens) s := by
    intro H T hS
    have f := F _ (T.inK KX nT) (T.ns ha hT hns) (T.tab ha hT C hns hbm)
    refine codeAny_mono (f.go callerA [] s H ⟨[.ref a], []⟩ [.ref a] [.ref a] _ _ rfl rm (T.env ha hT KX nT hns hb hbb hlim hg) (bind s (.ref a)) (.cons rfl .nil) (hsp H T.tabs hS)) fun r s2 h => ?_
    cases r with
    | error e => exact (hCX H e s2 h).elim
    | ok fl => cases fl with
      | next => exact h.elim
      | brk => exact h.elim
      | cont => exact h.elim
      | ret u =>
        obtain ⟨v, H2, os, bare, un, ok2, r2, q⟩ := h
        have e : v = .bl true := q
        subst e
        have e : u = Value.bool true := r2
        subst e
        exact ⟨rfl, T.kept hT C un ok2, os, bare⟩
  cases look : K.lookup a with
  | some o =>
    have e := KX a o look
    rw [ha] at e
    cases e
    have at_ : ∀ b, (if b ∈ cs.map (·.2) then some (HO.tbl #[]) else none) = none ∨ b ∈ cs.map (·.2) := fun b => by
      by_cases h : b ∈ cs.map (·.2)
      · exact .inr h
      · exact .inl (if_neg h)
    refine turn (fun b => if b ∈ cs.map (·.2) then some (.tbl #[]) else none) ⟨fun p hp => if_pos (mem p hp), fun b => (at_ b).elim .inl fun h => .inr (.inl h), fun b u z => ?_, fun b z => (at_ b).elim (fun e => absurd e z) .inr, fun z => absurd (if_neg noA) z⟩
      (.inr ⟨_, vs.toArray, _, look, rfl, rfl, rfl, by rw [List.size_toArray, many]; exact hl, by simpa using rv⟩)
    rcases at_ b with h | h
    · exact nomatch h.symm.trans z
    · have z2 := (if_pos h).symm.trans z
      cases z2
      have ⟨p, hp, e0⟩ := List.mem_map.mp h
      subst e0
      exact hT p hp
  | none =>
    have at_ : ∀ b, b = a ∨ (b ≠ a ∧ b ∈ cs.map (·.2)) ∨ (b ≠ a ∧ b ∉ cs.map (·.2)) := fun b => by
      by_cases h1 : b = a
      · exact .inl h1
      · by_cases h2 : b ∈ cs.map (·.2)
        · exact .inr (.inl ⟨h1, h2⟩)
        · exact .inr (.inr ⟨h1, h2⟩)
    refine turn (fun b => if b = a then some (.frz { cls := .type "list", data := .seq vs.toArray } (.lst (ns.map V.int))) else if b ∈ cs.map (·.2) then some (.tbl #[]) else none)
      ⟨fun p hp => (if_neg fun z => noA (by rw [← z]; exact mem p hp)).trans (if_pos (mem p hp)), fun b => ?_, fun b u z => ?_, fun b z => ?_, fun _ => look⟩ (.inl (.inr ⟨{ cls := .type "list", data := .seq vs.toArray }, if_pos rfl⟩))
    · rcases at_ b with h | ⟨_, h⟩ | ⟨h, h2⟩
      · exact .inr (.inr ⟨_, _, if_pos h⟩)
      · exact .inr (.inl h)
      · exact .inl ((if_neg h).trans (if_neg h2))
    · rcases at_ b with rfl | ⟨h, h2⟩ | ⟨h, h2⟩
      · have z2 := (if_pos rfl).symm.trans z
        cases z2
        refine ⟨ha, ?_, vs, _, rv, ha⟩
        rw [List.length_map]
        exact hl
      · have z2 := ((if_neg h).trans (if_pos h2)).symm.trans z
        cases z2
        obtain ⟨p, hp, rfl⟩ := List.mem_map.mp h2
        exact hT p hp
      · exact nomatch ((if_neg h).trans (if_neg h2)).symm.trans z
    · rcases at_ b with h | ⟨_, h⟩ | ⟨h, h2⟩
      · exact .inl h
      · exact .inr h
      · exact absurd ((if_neg h).trans (if_neg h2)) z
end
/-- what is known of the law's promise at the head's heap -/
def LawAtG (l : PySem.W.OpenLaw) (w : World) (K : PySem.W.Frag) (CX : CXT) (k n : Nat) (x : Str) (mg : Str → Option Value) (fa : Addr) (h : Heap) : Prop :=
  ∃ (fd : FuncData) (cs : List (Addr × Addr)) (sp : Sp), (∀ c ∈ cs, h.get? c.2 = some { cls := .none, data := .fields #[] }) ∧ (∀ c ∈ cs, K.lookup c.2 = none) ∧ (∀ c ∈ cs, PySem.W.CodeHd h c.1 c.2) ∧ (∀ (s : Shared) (u : Value), BindsTo s fd ⟨[u], []⟩ [(x, u)]) ∧
    (∀ (H : Hp) (b : Addr) (is : List Int), is.length ≤ n → (∀ i ∈ is, Builtin.Int.intBits i ≤ 1048576) → (∀ c ∈ cs, H c.2 = some (.tbl #[])) → SqL K H b (is.map V.int) → sp [.ref b] H (fun v _ => v = .bl true) fun _ _ _ => False) ∧
    ∀ base : Heap, K.In base → base.Ns mainGlobals mg → (∀ p ∈ cs, TabB base mg p.1 p.2) → FnG l.prog w K mg base CX k fa fd [x] sp
theorem walk_ofG {l : PySem.W.OpenLaw} {n k : Nat} {q : Program} {loose : List Str} {XP : (Str → Option Value) → Heap → Prop} {YP : World → Heap → Prop} {d : DefRec} {K : Params → PySem.W.Frag} {CX : World → CXT} {x : Str}
    (hn : l.most = some n) (hn2 : n ≤ sizeLine) (hdf : d.params.defaults = []) (rm : Room k callerA) (hY : ∀ (w : World) (h : Heap), YP w h → (K w.params).In h)
    (F : ∀ (w : World) (mg : Str → Option Value) (fa : Addr) (h : Heap), YP w h → (K w.params).In h → h.Ns mainGlobals mg → mg d.name = some (.ref fa) → LawAtG l w (K w.params) (CX w) k n x mg fa h)
    (hCX : ∀ (w : World) (H : Hp) (s : Shared) (e : Value) (s2 : Shared), CX w [] H s (fun _ _ _ => False) e s2 → False) :
    PySem.W.WalkO q loose XP YP l.row.toRowW d [] (fun g us => PySem.call g us) := by
  apply Att.attach_callB hn hdf
  intro w s0 s mg mb fa o pm cd doc a vs ns G Y ho hd hcd hmg hobj hints hlen hbits hg
  have KX := hY w _ Y
  have ⟨fd, cs, sp, hT, nT, C, hb, hsp, hF⟩ := F w mg fa _ Y KX G.T.g hmg
  exact law_callG KX G.T.g G.T.b G.T.builtins G.T.nolimit hg hT nT C G.T.bmain hobj hints (Nat.le_trans hlen hn2) rm hF hb (fun H t1 t2 => hsp H a ns hlen hbits t1 t2) fun H e s2 => hCX w H s e s2
end Gl
/-! Gl2: repr of data. -/
namespace Gl
open PySem PySem.Spec PyProof.Rows L2 LamX
/-- repr of a tuple or a list, as the hand layer tells it -/
def rRepr (K : PySem.W.Frag) : List V → Hp → VK → Prop := fun vs H Q => ∃ (a : Addr) (d : PyData), vs = [.ref a] ∧ Dp K H (.ref a) d ∧ d.showable = true ∧ d.hasDict = false ∧ d.depth ≤ 60 ∧ d.shown.length ≤ sizeLine ∧ Q (.str d.shown) H
theorem cr_repr {X : Cx} (gd : X.A.guards = some []) (hu : X.A.units + 64 < cLine) : CallR X (.builtin "repr") (rRepr X.K) := by
  intro pins s σ H xs us Q I rx h
  obtain ⟨a, d, rfl, dp, hs, hd, h60, hz, q⟩ := h
  cases rx with
  | cons r0 r1 =>
    cases r1
    have e : _ = Value.ref a := r0
    subst e
    obtain ⟨as, rd⟩ := Dp.reads I d _ _ dp r0
    refine repr_of_reads' rd hs (fun z => ?_) gd (by omega) (fun _ _ e => e) (fun h2 u tk kp => ⟨.str d.shown, H, I.kept kp, ⟨u, rfl⟩, q⟩) hz
    rw [hd] at z
    cases z
end Gl
namespace Dl
open PySem PySem.Spec PyProof.Rows L2 Gl
/-- repr may be asked of it -/
def rprOk (d : D) : Prop := okD d = true ∧ (py d).showable = true ∧ (py d).hasDict = false ∧ (py d).depth ≤ 60 ∧ (py d).shown.length ≤ sizeLine
def fReprD (P : Val → Prop) (d : D) : Prop := ((∃ l, d = .tup l ∨ d = .lst l) ∧ rprOk d) ∧ P (.dat (.str (py d).shown))
def fRepr : F1 := fun x P => fReprD P x.d
theorem rel_repr {K : PySem.W.Frag} : RelC1 K (rRepr K) fRepr := by
  intro B H x vx P Q k rx h a
  obtain ⟨⟨⟨l, hl⟩, o1, o2, o3, o4, o5⟩, q⟩ := h
  have dp := dp_val k rx o1
  have href : ∃ p, x = .ref p := by
    rcases hl with e | e
    · obtain ⟨p, vs, rfl, _⟩ := rv_tup k rx e
      exact ⟨p, rfl⟩
    · obtain ⟨p, vs, rfl, _⟩ := rv_lst k rx e
      exact ⟨p, rfl⟩
  obtain ⟨p, rfl⟩ := href
  exact ⟨p, _, rfl, dp, o2, o3, o4, o5, a.dat k (.str _) q⟩
end Dl
namespace Ml
open PySem PySem.Spec PyProof.Rows L2 Dl LamX Gl
section
variable {P : Program} {w : World} {K : PySem.W.Frag} {T : Tbs} {mg : Str → Option Value} {base : Heap}
/-- a def that raises nothing, where nothing is being shown -/
theorem fn_mG {x qual : Str} {sm : Stmt} {f : Addr} {fd : FuncData} {N ps : List Str} {k : Nat} {sp : MSp} {body : MS} (F : Fun K x qual sm f fd) (Sc : FnScope N ps (defScope sm))
    (len : ∀ ds S xc R, sp ds S xc R → ds.length = ps.length)
    (hb : ∀ (cdv : Value) (A : Around) (out : List Env) (s : Shared) (H : Hp), A.guards = some [] → Room k (A.deeper (envOfC qual (defScope sm) s.heap.objs.size f cdv)) →
      PSs (cxOf CX0 P w K mg base N qual (defScope sm) f cdv A out s H E0).nox (defBody sm) (LMS K T W0 body))
    (h : ∀ ds S xc R, sp ds S xc R → body XM0 { nx := fun _ S => R (.dat .non) S, rt := R } (args N ds) S) : FnG P w K mg base CX0 (k + 1) f fd ps (spM K T sp) := by
  obtain ⟨oc, od, kV, doc, pm, an, cdv, ct, osl, rfl, lk, hcd⟩ := F.ex
  refine fn_ofG lk hcd Sc (fun vs H Q E q => ?_) (fun A out s H vs Q E gd rm q => ?_)
  · obtain ⟨B, ds, S, xc, R, _, rl, _, _, hs, _⟩ := q
    rw [rl.length]
    exact len ds S xc R hs
  · obtain ⟨B, ds, S, xc, R, kp, rl, st, tb, hs, _, rt⟩ := q
    have g := good_start (N := N) kp rl st tb
    refine ⟨_, (hb cdv A out s H gd rm).nox, B, args N ds, S, XM0, _, g, h ds S xc R hs, fun _ _ _ _ _ _ _ _ _ _ z => z.elim, ?_, fun _ _ _ _ _ _ z => z.elim, fun _ _ _ _ _ _ z => z.elim, ?_⟩
    · exact fun s2 r2 H2 B2 S2 z q => rt .non (.dat .non) H2 B2 S2 z.endN (.dat .non) Fr.dat q
    · intro v x H2 B2 S2 z q
      have e := z.end_ g
      exact rt v x H2 B2 S2 e.1 e.2.1 e.2.2 q
end
section
variable {X : Cx} {T : Tbs} {W : WX}
theorem passG (σ : L2.St) : PassesAt CX0 X σ E0 := fun _ _ _ _ _ _ h => h.elim
/-- f(..), f one that is to be called where nothing is being shown -/
theorem mq_callG {x : Str} {p pos : Pos} {e : Expr} {es : List Expr} {k : Nat} {f : Addr} {fd : FuncData} {ps : List Str} {sp : MSp} {da : MA} (F : FnG X.prog X.w X.K X.mg X.base CX0 k f fd ps (spM X.K T sp)) (gd : X.A.guards = some []) (hr : Room k X.A) (hg : Gl X x) (hm : X.mg x = some (.ref f)) (hk : PySem.W.keepIn X.K (.ref f) = true) (hb : Binds X.K fd ps [])
    (ha : PA X (e :: es) (LMA X.K T W da)) (hdb : (x == ("__debug__" : Str)) = false := by decide) (he : starEach (e :: es) X.env = (false, eval e X.env) :: starEach es X.env := by rfl) (hpl : (backTo pos (starEach es X.env)).any (·.1) = false := by rfl) :
    PE X (.Call (.Name x p) (e :: es) [] pos) (LM X.K T W true (mCall sp da)) := by
  refine imE (pe_callG (E := fun _ => E0) F gd hr hg hm hk hb passG ha hdb he hpl) fun s H Q ⟨B, r, S, xc, P, g, h, hx, hq⟩ => ⟨B, r, S, xc, _, g, h, hx, fun vs ds H1 B1 S1 z1 rl q => ?_⟩
  have g1 := g.step z1
  exact ⟨B1, ds, S1, _, P, g1.kp, rl, g1.st, ⟨g1.tb, g1.tn⟩, q, fun _ _ _ _ _ _ _ _ z => z.elim, fun v x H2 B2 S2 z2 rv fr p => hq v x H2 B2 S2 (z1.trans z2) rv (fun _ => z1.fr fr) p⟩
end
end Ml
namespace Gl
open PySem PySem.Spec PyProof.Rows L2 LamX
/-- the end of a law without tables -/
theorem walk_g0 {l : PySem.W.OpenLaw} {n k : Nat} {q : Program} {loose : List Str} {XP : (Str → Option Value) → Heap → Prop} {YP : World → Heap → Prop} {d : DefRec} {K : Params → PySem.W.Frag} {CX : World → CXT} {sp : World → Sp} {x : Str}
    (hn : l.most = some n) (hn2 : n ≤ sizeLine) (hdf : d.params.defaults = []) (rm : Room k callerA) (hY : ∀ (w : World) (h : Heap), YP w h → (K w.params).In h)
    (F : ∀ (w : World) (mg : Str → Option Value) (fa : Addr) (h : Heap), (K w.params).In h → h.Ns mainGlobals mg → mg d.name = some (.ref fa) →
      ∃ fd : FuncData, (∀ (s : Shared) (v : Value), BindsTo s fd ⟨[v], []⟩ [(x, v)]) ∧ ∀ base : Heap, (K w.params).In base → base.Ns mainGlobals mg → FnG l.prog w (K w.params) mg base (CX w) k fa fd [x] (sp w))
    (hsp : ∀ (w : World) (H : Hp) (a : Addr) (is : List Int), is.length ≤ n → True → SqL (K w.params) H a (is.map V.int) → sp w [.ref a] H (fun v _ => v = .bl true) fun _ _ _ => False)
    (hCX : ∀ (w : World) (H : Hp) (s : Shared) (e : Value) (s2 : Shared), CX w [] H s (fun _ _ _ => False) e s2 → False) :
    PySem.W.WalkO q loose XP YP l.row.toRowW d [] (fun g us => PySem.call g us) := by
  refine walk_ofG (x := x) hn hn2 hdf rm hY (fun w mg fa h _ KX G hm => ?_) hCX
  obtain ⟨fd, hb, f⟩ := F w mg fa h KX G hm
  exact ⟨fd, [], sp w, fun _ z => (nomatch z), fun _ z => (nomatch z), fun _ z => (nomatch z), hb, fun H a is hl _ _ hS => hsp w H a is hl trivial hS, fun base kb gb _ => f base kb gb⟩
end Gl
namespace Cl
open PySem PySem.Spec PyProof.Rows L2 Dl Ml
local macro_rules | `(tactic| walk_at "dl") => `(tactic| dsimp only [dSeq, dSet, dRet, dRetV, dRetN, dDrop, dIfS, dNext, dBreak, dCont, dC, dVar, dVarM, dOp, dUn, dChain, dB, dTru, dAnd, dOr, dNot, dAndV, dOrV, dNotV, dIf, dSh, dNil, dCons, dTup, dLst, dCall, dCallX, dIt, dRng1, dRng2, dYes, dLc, dFor, dM1, dSl, dNo, dPart, dRevS, dDisp, dNewD, dDrawGet, dDrawPut, dDraw, dFz, dAppend, lk, Dl.st, fz, fI, fI0, fSub, fMul, fMod, fDiv, fPow, fLt, fLe, fGt, fGe, fNeg, fAdd, fIs, fIsNot, fEq, fNe, fIn, fTru, fIx, fSl, fLen, fAbs, fInt, fMax, fMin, fList, fTuple, fAll, fAny, fIsi, fSplit, fJoin, fIt, gN, gT2, gT3, wp, dGet1, dGet2, dKGet, dUpdate, dPutI, dZip, fEqE, dAug, fSum, fRep, dDrawlGet, dDrawlPut, dDrawlAug, dDrawl, dAugL, dWhile, fStr, fMulS, dAsgT, fIsi2, dKIx, dExtend, dAugL, dReverse, dM2, fCnt, fIdx, dPar, fSort, fSortSet, fLenSet, gL2, fMaxDef, z041, fInK, fIxK, fEqK, fDictP, z051, z052, z053, z061, z071, dEnum, dRng3, z031, z032, z033, z034, z021, z022, z023, z024, y001, y002, y003, y004, y005, y006, y007, y008, y009, y010, y011, y012, y013, y014, y015, y016, y017, y018, y019, y020, y021, y022, y023, y024, y025, y026, y027, y028, y029, y030, y031, y032, y033, y034, y035, y036, y037, y038, y039, y040, y041, y042, y043, y044, y045, y046, y047, y048, y049, y050, y051, y052, y053, y054, y055, y056, y057, y058, y059, y060, y061, y062, y063, y064, y065, y066, y067, y068, y069, y070, y071, y072, y073, y074, y075, y076, y077, y078, y079, y080, y081, y082, y083, y084, y085, y086, y087, y088, y089, y090, y091, y092, y093, y094, y095, y096, y097, y098, y099, y100, y101, y102, y103, y104, y105, y106, y107, y108, y109, y110, y111, y112, y113, y114, y115, y116, y117, y118, y119, y120, y121, y122, y123, y124, y125, y126, y127, y128, y129, y130, y131, y132, y133, y134, y135, y136, y137, y138, y139, y140, y141, y142, y143, y144, y145, y146, y147, y148, y149, y150, y151, y152, y153, y154, y155, y156, y157, y158, y159, y160, y161, y162, y163, y164, y165, y166, y167, y168, y169, y170, y171, z001, z002, z003, z004, z005, z006, z007, z008, z009, z010, z011, z012, z013, z014, z015, z016, z017, z018, z019, z020])
local macro_rules | `(tactic| walk_at "sz") => `(tactic| repeat (refine And.intro (small_sz (by (try simp only [len_app, revS_length, List.length_cons, List.length_nil, List.length_append, List.length_map]); omega)) ?_))
local macro_rules | `(tactic| walk_at "ml") => `(tactic| dsimp only [mSeq, mSet, mRet, mRetV, mRetN, mDrop, mIfS, mNext, mBreak, mCont, mFz, mU, mUT, mUA, mUS, mUI, mVar, mVarM, mOp, mUn, mChain, mB, mTru, mAnd, mOr, mNot, mAndV, mOrV, mNotV, mIf, mSh, mPut, mNil, mCons, mTup, mLst, mCall, mCallX, mIt, mLc, mYes, mFor, mRaise, mTryK, mIsX, mIsXs, fIsX, fIsXs, upS, w001, w002, w003, w004, w005, w006, w007, w008, w009, w010, w011, w012, w013, w014, w015, dSeq, dSet, dRet, dRetV, dRetN, dDrop, dIfS, dNext, dBreak, dCont, dC, dVar, dVarM, dOp, dUn, dChain, dB, dTru, dAnd, dOr, dNot, dAndV, dOrV, dNotV, dIf, dSh, dNil, dCons, dTup, dLst, dCall, dCallX, dIt, dRng1, dRng2, dYes, dLc, dFor, dM1, dSl, dNo, dPart, dRevS, dDisp, dNewD, dDrawGet, dDrawPut, dDraw, dFz, dAppend, lk, Dl.st, fz, fI, fI0, fSub, fMul, fMod, fDiv, fPow, fLt, fLe, fGt, fGe, fNeg, fAdd, fIs, fIsNot, fEq, fNe, fIn, fTru, fIx, fSl, fLen, fAbs, fInt, fMax, fMin, fList, fTuple, fAll, fAny, fIsi, fSplit, fJoin, fIt, gN, gT2, gT3, wp, dGet1, dGet2, dKGet, dUpdate, dPutI, dZip, fEqE, dAug, fSum, fRep, dDrawlGet, dDrawlPut, dDrawlAug, dDrawl, dAugL, dWhile, fStr, fMulS, dAsgT, fIsi2, dKIx, dExtend, dAugL, dReverse, dM2, fCnt, fIdx, dPar, mLam, mAct, mM2, mAppend, mPutC, mFg, mEnum, mPop, mPopAt, mAsgT, mPar, mAppendC, asDM, fSort, fSortSet, fLenSet, gL2, fMaxDef, z041, fInK, fIxK, fEqK, fDictP, z051, z052, z053, z061, z071, dEnum, dRng3, mM1, mGet2, mClear, fDictC, fRepr, fReprD, mUpdate, mPutI, mGet2, mClear, fDictC, fRepr, fReprD, mRng1, mRng2, mSl, mPart, mNo, z081, z082, z031, z032, z033, z034, z021, z022, z023, z024, y001, y002, y003, y004, y005, y006, y007, y008, y009, y010, y011, y012, y013, y014, y015, y016, y017, y018, y019, y020, y021, y022, y023, y024, y025, y026, y027, y028, y029, y030, y031, y032, y033, y034, y035, y036, y037, y038, y039, y040, y041, y042, y043, y044, y045, y046, y047, y048, y049, y050, y051, y052, y053, y054, y055, y056, y057, y058, y059, y060, y061, y062, y063, y064, y065, y066, y067, y068, y069, y070, y071, y072, y073, y074, y075, y076, y077, y078, y079, y080, y081, y082, y083, y084, y085, y086, y087, y088, y089, y090, y091, y092, y093, y094, y095, y096, y097, y098, y099, y100, y101, y102, y103, y104, y105, y106, y107, y108, y109, y110, y111, y112, y113, y114, y115, y116, y117, y118, y119, y120, y121, y122, y123, y124, y125, y126, y127, y128, y129, y130, y131, y132, y133, y134, y135, y136, y137, y138, y139, y140, y141, y142, y143, y144, y145, y146, y147, y148, y149, y150, y151, y152, y153, y154, y155, y156, y157, y158, y159, y160, y161, y162, y163, y164, y165, y166, y167, y168, y169, y170, y171, z001, z002, z003, z004, z005, z006, z007, z008, z009, z010, z011, z012, z013, z014, z015, z016, z017, z018, z019, z020])
local macro_rules | `(tactic| walk_at "sz") => `(tactic| repeat (refine And.intro (small_sz (by (try simp only [len_app, revS_length, List.length_cons, List.length_nil, List.length_append, List.length_map]); omega)) ?_))
def LET : Str := "abcdefghijklmnopqrstuvwxyz"
def KEPTL : List Str := ["number", "truth", "name", "gap", "let", "fun", "call", "pair", "first", "second", "none", "add", "fold", "again", "if", "plus", "minus", "less", "same", "yes", "no", "num", "list", "any"]
/-- is it a name -/
def nameS (s : Str) : Bool := decide (1 ≤ s.length ∧ s.length ≤ 6) && !decide (s ∈ KEPTL) && s.cps.toList.all fun c => decide (c ∈ LET.cps.toList)
def nameB : D → Bool
  | .str s => nameS s
  | _ => false
/-- a thing that may be asked: not too long -/
def askOk : D → Prop
  | .str s => s.length ≤ 1000 ∧ okS s
  | d => d.plain = true
theorem chars_of {L : List Nat} : ∀ {acc : List D}, (∀ d ∈ acc, ∃ c ∈ L, d = .str ⟨#[c]⟩) → ∃ cs : List Nat, acc = cs.map (fun c => D.str ⟨#[c]⟩) ∧ ∀ c ∈ cs, c ∈ L
  | [], _ => ⟨[], rfl, fun _ h => nomatch h⟩
  | d :: r, h => by
    obtain ⟨c, hc, e⟩ := h d (List.mem_cons_self ..)
    obtain ⟨cs, e2, h2⟩ := chars_of fun x hx => h x (List.mem_cons_of_mem _ hx)
    refine ⟨c :: cs, by rw [e, e2]; rfl, fun x hx => ?_⟩
    rcases List.mem_cons.mp hx with rfl | hx
    · exact hc
    · exact h2 x hx
theorem kept_q : KEPTL.all (fun w => nameS (cutS w none (some 5) ++ "q")) = true := by decide +kernel
theorem let_len : LET.length = 26 := by decide +kernel
theorem let_eq : ("abcdefghijklmnopqrstuvwxyz" : Str) = LET := rfl
theorem name_len {s : Str} (h : nameS s = true) : 1 ≤ s.length ∧ s.length ≤ 6 := by
  unfold nameS at h
  rw [Bool.and_eq_true, Bool.and_eq_true] at h
  exact of_decide_eq_true h.1.1
theorem name_not {s : Str} (h : nameS s = true) : ¬ s ∈ KEPTL := by
  unfold nameS at h
  rw [Bool.and_eq_true, Bool.and_eq_true] at h
  exact of_decide_eq_false (by simpa using h.1.2)
theorem let_ok : okS LET := by
  have h : LET.cps.toList.all (fun c => decide (c < 0x110000)) = true := by decide +kernel
  exact fun c hc => of_decide_eq_true (List.all_eq_true.mp h c hc)
theorem name_ok {s : Str} (h : nameS s = true) : okS s := by
  unfold nameS at h
  rw [Bool.and_eq_true, Bool.and_eq_true] at h
  exact fun c hc => let_ok c (of_decide_eq_true (List.all_eq_true.mp h.2 c hc))
theorem first_of {s : Str} (h : nameS s = true) {P : Nat → Prop} (q : ∀ c, c < 0x110000 → P c) : onO (atI s.cps.toList 0) P := by
  have hl := name_len h
  obtain ⟨c, hc, hm⟩ := atI_get (l := s.cps.toList) (i := 0) (by omega) (by
    rw [Array.length_toList]
    show (0 : Int) < ((s.length : Nat) : Int)
    omega)
  exact onO_of hc (q c (name_ok h c hm))
theorem nameS_no1 {s : Str} (h : ¬ (1 ≤ s.length ∧ s.length ≤ 6)) : nameS s = false := by
  unfold nameS
  rw [decide_eq_false h]
  rfl
theorem nameS_no2 {s : Str} (h : s ∈ KEPTL) : nameS s = false := by
  unfold nameS
  rw [decide_eq_true h]
  simp
theorem nameS_yes {s : Str} (h : 1 ≤ s.length ∧ s.length ≤ 6) (h2 : ¬ s ∈ KEPTL) : nameS s = s.cps.toList.all fun c => decide (c ∈ LET.cps.toList) := by
  unfold nameS
  rw [decide_eq_true h, decide_eq_false h2]
  rfl
theorem chars_bl (f : Nat → Bool) (g : D → D) (hg : ∀ c, g (.str ⟨#[c]⟩) = .bl (f c)) (l : List Nat) : blsOf ((l.map fun c => D.str ⟨#[c]⟩).map g) = some (l.map f) := by
  rw [List.map_map]
  have e : (g ∘ fun c => D.str ⟨#[c]⟩) = fun c => D.bl (f c) := funext hg
  rw [e]
  exact blsOf_map f l
/-- the sign of a text of one -/
def signOf : D → Nat
  | .str ⟨⟨[c]⟩⟩ => c
  | _ => 0
theorem none_left {α : Type} (p : α → Bool) : ∀ l : List α, (l.filter fun c => !p c).isEmpty = l.all p
  | [] => rfl
  | a :: r => by
    cases h : p a with
    | true => rw [List.filter_cons_of_neg (by rw [h]; decide), List.all_cons, h, none_left p r]; rfl
    | false => rw [List.filter_cons_of_pos (by rw [h]; decide), List.all_cons, h]; rfl
theorem safe_nil : (Ct.dic []).safe := fun a b m h => by
  have := congrArg List.length h
  cases this
/-! ### kinds -/
inductive Ki where
  | num | tru | any (i : Nat) | lst (a : Ki) | pair (a b : Ki) | fn (a b : Ki)
def Ki.d : Ki → D
  | .num => .tup [.str "num"]
  | .tru => .tup [.str "truth"]
  | .any i => .tup [.str "any", .int (i : Int)]
  | .lst a => .tup [.str "list", a.d]
  | .pair a b => .tup [.str "pair", a.d, b.d]
  | .fn a b => .tup [.str "fun", a.d, b.d]
/-- how deep -/
def Ki.deep : Ki → Nat
  | .lst a => a.deep + 1
  | .pair a b => max a.deep b.deep + 1
  | .fn a b => max a.deep b.deep + 1
  | _ => 1
def Ki.size : Ki → Nat
  | .lst a => a.size + 1
  | .pair a b => a.size + b.size + 1
  | .fn a b => a.size + b.size + 1
  | _ => 1
theorem okT_s (s : Str) (h : (decide (s.length ≤ 1000) && s.cps.toList.all fun c => decide (c < 0x110000)) = true) : okT 3 (.str s) = true := h
theorem Ki.ok3 : ∀ k : Ki, Dl.okT 3 k.d = true
  | .num => by decide +kernel
  | .tru => by decide +kernel
  | .any i => okT_tup.mpr ⟨fun d hd => by
      rcases List.mem_cons.mp hd with rfl | hd
      · decide +kernel
      · rw [List.mem_singleton.mp hd]; rfl, Nat.le_of_ble_eq_true rfl⟩
  | .lst a => okT_tup.mpr ⟨fun d hd => by
      rcases List.mem_cons.mp hd with rfl | hd
      · decide +kernel
      · rw [List.mem_singleton.mp hd]; exact Ki.ok3 a, Nat.le_of_ble_eq_true rfl⟩
  | .pair a b => okT_tup.mpr ⟨fun d hd => by
      rcases List.mem_cons.mp hd with rfl | hd
      · decide +kernel
      · rcases List.mem_cons.mp hd with rfl | hd
        · exact Ki.ok3 a
        · rw [List.mem_singleton.mp hd]; exact Ki.ok3 b, Nat.le_of_ble_eq_true rfl⟩
  | .fn a b => okT_tup.mpr ⟨fun d hd => by
      rcases List.mem_cons.mp hd with rfl | hd
      · decide +kernel
      · rcases List.mem_cons.mp hd with rfl | hd
        · exact Ki.ok3 a
        · rw [List.mem_singleton.mp hd]; exact Ki.ok3 b, Nat.le_of_ble_eq_true rfl⟩
/-- the sizes of forms -/
def SIZT : List (Str × Nat) := [("num", 1), ("truth", 1), ("pair", 3), ("list", 2), ("fun", 3), ("any", 2)]
def szk (w : Str) : Nat := ((SIZT.find? fun p => decide (p.1 = w)).map (·.2)).getD 0
/-- a letter -/
def letB : D → Bool
  | .int i => decide (0 ≤ i)
  | _ => false
/-- the parts' sizes put together -/
def ksum (f : D → Option Nat) : List D → Option Nat
  | [] => some 0
  | d :: r => match f d, ksum f r with
    | some a, some b => some (a + b)
    | _, _ => none
/-- how many parts a kind has, if it is one not deeper than n -/
def ksz : Nat → D → Option Nat
  | n + 1, .tup (.str w :: ps) => if szk w = ps.length + 1 then (if w = "any" then (if ps.all letB then some 1 else none) else (ksum (ksz n) ps).map (· + 1)) else none
  | _, _ => none
theorem ksz_zero (d : D) : ksz 0 d = none := by unfold ksz; rfl
theorem ksz_succ (n : Nat) (w : Str) (ps : List D) : ksz (n + 1) (.tup (.str w :: ps)) = if szk w = ps.length + 1 then (if w = "any" then (if ps.all letB then some 1 else none) else (ksum (ksz n) ps).map (· + 1)) else none := rfl
def kheaded : D → Bool
  | .tup (.str _ :: _) => true
  | _ => false
theorem ksz_unheaded {n : Nat} {d : D} (h : kheaded d = false) : ksz n d = none := by
  unfold ksz
  split
  · cases h
  · rfl
theorem sz {n : Nat} (h : Nat.ble n 100000 = true) : n ≤ sizeLine := Nat.le_trans (Nat.le_of_ble_eq_true h) (by decide)
theorem ifB_or2 {p q : Prop} [Decidable p] [Decidable q] {A B : Prop} (a : A) (b : ¬ p → ¬ q → B) : ifB (decide p) A (ifB (decide q) A B) :=
  ifB_dec (fun _ => a) fun h => ifB_dec (fun _ => a) fun h2 => b h h2
/-- how deep a kind of so many parts may be -/
def gT : List Nat := [0, 1, 2, 3, 3, 4, 4, 4, 5, 5, 6, 5, 6, 6, 6, 7, 7, 8, 7, 7, 7, 7, 8, 8, 9, 9, 9, 8, 8, 9, 9, 10, 9, 9, 9, 10, 10, 10, 11, 10, 9, 10, 10, 10, 10, 11, 11, 10, 10, 10, 10, 11, 12, 11, 11, 12, 12, 11, 10, 11, 11, 11, 11, 11, 12, 12, 13, 12, 11, 11, 11, 11, 11, 12, 12, 13, 13, 12, 12, 12, 13, 13, 13, 12, 11, 12, 12, 13, 13, 12, 12, 12, 13, 13, 14, 14, 14, 13, 12, 12, 12, 13, 12, 12, 13, 13, 13, 13, 14, 14, 14, 14, 14, 13, 13, 14, 14, 14, 14, 14, 13, 12, 13, 13, 13, 14, 14, 14, 14, 15, 13, 13, 14, 14, 14, 15, 16, 15, 15, 15, 14, 13, 13, 14, 13, 14, 14, 14, 14, 13, 14, 14, 14, 14, 14, 15, 15, 16, 15, 15, 15, 15, 15, 14, 15, 15, 15, 15, 15, 15, 15, 16, 15, 14, 14, 14, 14, 14, 15, 14, 15, 15, 15, 15, 15, 16, 16, 15, 15, 15, 15, 15, 16, 15, 16, 17, 17, 16, 16, 17, 16, 15]
def gD (k : Nat) : Nat := gT.getD k 0
/-- its letters are not too great -/
def Ki.lets : Ki → Prop
  | .any i => i ≤ 10 ^ 20
  | .lst a => a.lets
  | .pair a b => a.lets ∧ b.lets
  | .fn a b => a.lets ∧ b.lets
  | _ => True
/-- a table of kinds for letters -/
abbrev Kt := List (Nat × Ki)
def ktD (t : Kt) : List (Key × D) := t.map fun p => ((.inl (p.1 : Int) : Key), p.2.d)
def getK (t : Kt) (i : Nat) : Option Ki := (t.find? fun p => decide (p.1 = i)).map (·.2)
/-- all letters put in at once -/
def putKi (t : Kt) : Ki → Ki
  | .any i => (getK t i).getD (.any i)
  | .lst a => .lst (putKi t a)
  | .pair a b => .pair (putKi t a) (putKi t b)
  | .fn a b => .fn (putKi t a) (putKi t b)
  | k => k
/-- letters unlike, kinds neither deep nor great -/
def KtOk (t : Kt) : Prop := (t.map (·.1)).Nodup ∧ t.length ≤ 100 ∧ ∀ p ∈ t, p.2.deep ≤ 11 ∧ p.2.size ≤ 60 ∧ p.2.lets
def sp_w_cell_at : DSp := fun ds _ P => ∃ ns k, ds = [.scr ns, .int k] ∧ 0 ≤ k ∧ ∀ n, P (.dat (.int n))
def sp_w_draw : DSp := fun ds _ P => ∃ ns k, ds = [.scr ns, .int k] ∧ 0 ≤ k ∧ k < 1000000 ∧ P (.dat .draw)
def sp_w_next : DSp := fun ds _ P => ∃ n, ds = [.draw, .int n] ∧ 0 < n ∧ n < 2 ^ 100 ∧ ∀ r, 0 ≤ r → r < n → P (.dat (.int r))
def sp_w_pick : DSp := fun ds _ P => ∃ c l, ds = [.draw, c] ∧ (c = .lst l ∨ c = .tup l ∨ ∃ z : Str, c = .str z ∧ z.length ≤ 1000 ∧ l = z.cps.toList.map fun c => D.str ⟨#[c]⟩) ∧ 0 < l.length ∧ l.length < 100000 ∧ ∀ d ∈ l, P (.dat d)
def sp_w_letter_kind (n : Nat) : DSp := fun ds _ P => ∃ k : Int, ds = [.draw, .int k] ∧ 0 ≤ k ∧ k < n ∧ ∀ x : Ki, (x.deep : Int) ≤ k + 1 → x.lets → P (.dat x.d)
def sp_w_sized (n : Nat) : DSp := fun ds _ P => ∃ k : Nat, ds = [.draw, .int (k : Int)] ∧ 1 ≤ k ∧ k ≤ 200 ∧ gD k < n ∧ ∀ x : Ki, x.size = k → x.deep ≤ gD k → x.lets → P (.dat x.d)
def sp_put_letters (n : Nat) : MSp := fun ds S _ P => ∃ (x : Ki) (p : Addr) (t : Kt), ds = [x.d, .obj p] ∧ x.deep < n ∧ S p = some (.ct (.dic (ktD t))) ∧ P (.dat (putKi t x).d) S
def sp_w_put (n : Nat) : MSp := sp_put_letters n
def sp_law : MSp := fun ds S _ P => ∃ ns : List Int, ds = [.scr ns] ∧ ns.length ≤ 63 ∧ ∀ S2, P (.dat (.bl true)) S2
/-! put_letters -/
abbrev N_put_letters : List Str := ["kind", "table", "part"]
def d_put_letters (n : Nat) : MS :=
  (mSeq (mIfS (mUT (dB (dOp fEq (dOp fIx (dVar 0) (dC (.int 0))) (dC (.str "any")))))
  (mRet (mGet2 (mVar 1) (mU (dOp fIx (dVar 0) (dC (.int 1)))) (mVarM 0)))
  mNext)
  (mRet (mOp fAdd (mU (dSl (dVar 0) dNo (dPart (dC (.int 1))))) (mUn fTuple (mLc (mUI (dIt (dSl (dVar 0) (dPart (dC (.int 1))) dNo))) (gN 2) mYes (mCall (sp_put_letters n) (mCons (mU (dVarM 2)) (mCons (mVarM 1) mNil))) [2])))))
/-! cell_at -/
abbrev N_w_cell_at : List Str := ["_law_script", "_law_k"]
def d_w_cell_at : DS :=
  (dSeq (dIfS (dB (dOp fLt (dVar 1) (dUn fLen (dVar 0))))
  (dRet (dOp fIx (dVar 0) (dVar 1)))
  dNext)
  (dRet (dC (.int 0))))
/-! draw -/
abbrev N_w_draw : List Str := ["_law_script", "_law_k", "_law_cell", "_law_mixed"]
def d_w_draw : DS :=
  (dSeq (dSet 2 (dCall sp_w_cell_at (dCons (dVarM 0) (dCons (dVarM 1) dNil))))
  (dSeq (dSet 3 (dOp fMod (dOp fMul (dOp fAdd (dOp fAdd (dOp fMod (dUn fAbs (dVar 2)) (dC (.int 2147483629))) (dOp fMul (dC (.int 7919)) (dVar 1))) (dC (.int 11))) (dC (.int 48271))) (dC (.int 2147483647))))
  (dRet (dDraw (dDisp [((dC (.str "rest")), (dOp fMax (dC (.int 0)) (dOp fSub (dVar 2) (dOp fPow (dC (.int 10)) (dC (.int 18)))))), ((dC (.str "mixed")), (dOp fMod (dOp fMul (dVar 3) (dVar 3)) (dC (.int 2147483629)))), ((dC (.str "words")), (dSh (dLst (dCons (dC (.str "x")) (dCons (dC (.str "y")) dNil))))), ((dC (.str "left")), (dSh (dLst dNil)))])))))
/-! next -/
abbrev N_w_next : List Str := ["_law_draw_here", "_law_many", "_law_found"]
def d_w_next : DS :=
  (dSeq (dIfS (dB (dOp fGt (dDrawGet 0 "rest") (dC (.int 0))))
  (dSeq (dSet 2 (dOp fMod (dDrawGet 0 "rest") (dVar 1)))
  (dSeq (dDrawPut 0 "rest" (dOp fDiv (dDrawGet 0 "rest") (dVar 1)))
  (dRetV 2)))
  dNext)
  (dSeq (dDrawPut 0 "mixed" (dOp fMod (dOp fAdd (dOp fMul (dDrawGet 0 "mixed") (dC (.int 48271))) (dC (.int 11))) (dC (.int 2147483647))))
  (dRet (dOp fMod (dOp fDiv (dOp fMod (dOp fMul (dDrawGet 0 "mixed") (dDrawGet 0 "mixed")) (dC (.int 2147483629))) (dC (.int 7))) (dVar 1)))))
/-! pick -/
abbrev N_w_pick : List Str := ["_law_draw_here", "_law_some"]
def d_w_pick : DS :=
  (dRet (dOp fIx (dVar 1) (dCall sp_w_next (dCons (dVarM 0) (dCons (dUn fLen (dVar 1)) dNil)))))
/-! letter_kind -/
abbrev N_w_letter_kind : List Str := ["_law_draw_here", "_law_deep", "_law_way", "_law_one"]
def d_w_letter_kind (n : Nat) : DS :=
  (dSeq (dSet 2 (dCall sp_w_next (dCons (dVarM 0) (dCons (dC (.int 9)) dNil))))
  (dSeq (dIfS (dOr (dB (dOp fEq (dVar 1) (dC (.int 0)))) (dB (dOp fLt (dVar 2) (dC (.int 4)))))
  (dRet (dOp fIx (dLst (dCons (dTup (dCons (dC (.str "num")) dNil)) (dCons (dTup (dCons (dC (.str "truth")) dNil)) (dCons (dTup (dCons (dC (.str "any")) (dCons (dCall sp_w_next (dCons (dVarM 0) (dCons (dC (.int 3)) dNil))) dNil))) (dCons (dTup (dCons (dC (.str "any")) (dCons (dCall sp_w_pick (dCons (dVarM 0) (dCons (dSh (dLst (dCons (dC (.int 0)) (dCons (dC (.int 7)) (dCons (dOp fPow (dC (.int 10)) (dC (.int 20))) dNil))))) dNil))) dNil))) dNil))))) (dOp fMod (dVar 2) (dC (.int 4)))))
  dNext)
  (dSeq (dSet 3 (dCall (sp_w_letter_kind n) (dCons (dVarM 0) (dCons (dOp fSub (dVar 1) (dC (.int 1))) dNil))))
  (dSeq (dIfS (dB (dOp fLt (dVar 2) (dC (.int 6))))
  (dRet (dTup (dCons (dC (.str "list")) (dCons (dVarM 3) dNil))))
  dNext)
  (dRet (dTup (dCons (dOp fIx (dLst (dCons (dC (.str "pair")) (dCons (dC (.str "fun")) dNil))) (dOp fMod (dVar 2) (dC (.int 2)))) (dCons (dVarM 3) (dCons (dCall (sp_w_letter_kind n) (dCons (dVarM 0) (dCons (dOp fSub (dVar 1) (dC (.int 1))) dNil))) dNil)))))))))
/-! sized -/
abbrev N_w_sized : List Str := ["_law_draw_here", "_law_many", "_law_left", "_law_word"]
def d_w_sized (n : Nat) : DS :=
  (dSeq (dIfS (dB (dOp fEq (dVar 1) (dC (.int 1))))
  (dRet (dCall (sp_w_letter_kind 5) (dCons (dVarM 0) (dCons (dC (.int 0)) dNil))))
  dNext)
  (dSeq (dIfS (dOr (dB (dOp fEq (dVar 1) (dC (.int 2)))) (dAnd (dB (dOp fEq (dOp fMod (dVar 1) (dC (.int 7))) (dC (.int 3)))) (dB (dOp fEq (dCall sp_w_next (dCons (dVarM 0) (dCons (dC (.int 2)) dNil))) (dC (.int 0))))))
  (dRet (dTup (dCons (dC (.str "list")) (dCons (dCall (sp_w_sized n) (dCons (dVarM 0) (dCons (dOp fSub (dVar 1) (dC (.int 1))) dNil))) dNil))))
  dNext)
  (dSeq (dSet 2 (dOp fAdd (dC (.int 1)) (dOp fDiv (dOp fMul (dOp fSub (dVar 1) (dC (.int 2))) (dOp fAdd (dC (.int 3)) (dCall sp_w_next (dCons (dVarM 0) (dCons (dC (.int 5)) dNil))))) (dC (.int 10)))))
  (dSeq (dSet 3 (dCall sp_w_pick (dCons (dVarM 0) (dCons (dSh (dLst (dCons (dC (.str "pair")) (dCons (dC (.str "fun")) dNil)))) dNil))))
  (dRet (dTup (dCons (dVarM 3) (dCons (dCall (sp_w_sized n) (dCons (dVarM 0) (dCons (dVarM 2) dNil))) (dCons (dCall (sp_w_sized n) (dCons (dVarM 0) (dCons (dOp fSub (dOp fSub (dVar 1) (dC (.int 1))) (dVar 2)) dNil))) dNil)))))))))
/-! put -/
abbrev N_w_put : List Str := ["_law_kind", "_law_table", "_law_part"]
def d_w_put (n : Nat) : MS :=
  (mSeq (mIfS (mUT (dB (dOp fEq (dOp fIx (dVar 0) (dC (.int 0))) (dC (.str "any")))))
  (mRet (mGet2 (mVar 1) (mU (dOp fIx (dVar 0) (dC (.int 1)))) (mVarM 0)))
  mNext)
  (mRet (mOp fAdd (mU (dSl (dVar 0) dNo (dPart (dC (.int 1))))) (mUn fTuple (mLc (mUI (dIt (dSl (dVar 0) (dPart (dC (.int 1))) dNo))) (gN 2) mYes (mCall (sp_w_put n) (mCons (mU (dVarM 2)) (mCons (mVarM 1) mNil))) [2])))))
/-! law -/
abbrev N_law : List Str := ["_law_script", "_law_k", "_law_draw_here", "_law_kind", "_law_table", "_law_letter", "_law_due", "_law_kept"]
def d_law : MS :=
  (mSeq (mFor (mUI (dRng1 (dCons (dOp fMax (dC (.int 1)) (dOp fMin (dUn fLen (dVar 0)) (dC (.int 12)))) dNil))) (gN 1)
  (mSeq (mUS (dSet 2 (dCall sp_w_draw (dCons (dVarM 0) (dCons (dVarM 1) dNil)))))
  (mSeq (mUS (dSet 3 (dIf (dB (dOp fEq (dCall sp_w_next (dCons (dVarM 2) (dCons (dC (.int 8)) dNil))) (dC (.int 0)))) (dCall (sp_w_sized 18) (dCons (dVarM 2) (dCons (dOp fAdd (dC (.int 180)) (dCall sp_w_next (dCons (dVarM 2) (dCons (dC (.int 21)) dNil)))) dNil))) (dCall (sp_w_letter_kind 5) (dCons (dVarM 2) (dCons (dC (.int 3)) dNil))))))
  (mSeq (mSet 4 (mPut (mU dNewD)))
  (mSeq (mFor (mUI (dIt (dLst (dCons (dC (.int 0)) (dCons (dC (.int 1)) (dCons (dC (.int 2)) (dCons (dC (.int 7)) (dCons (dOp fPow (dC (.int 10)) (dC (.int 20))) dNil)))))))) (gN 5)
  (mIfS (mUT (dB (dOp fEq (dCall sp_w_next (dCons (dVarM 2) (dCons (dC (.int 2)) dNil))) (dC (.int 1)))))
  (mPutC 4 (mVar 5) (mU (dCall (sp_w_letter_kind 5) (dCons (dVarM 2) (dCons (dC (.int 2)) dNil)))))
  mNext))
  (mSeq (mIfS (mUT (dB (dOp fEq (dCall sp_w_next (dCons (dVarM 2) (dCons (dC (.int 9)) dNil))) (dC (.int 0)))))
  (mPutC 4 (mU (dC (.int 1))) (mU (dCall (sp_w_sized 18) (dCons (dVarM 2) (dCons (dC (.int 60)) dNil)))))
  mNext)
  (mSeq (mFz 4 (mSet 6 (mCall (sp_w_put 64) (mCons (mU (dVarM 3)) (mCons (mVarM 4) mNil)))))
  (mSeq (mSet 7 (mPut (mUn fDictC (mVar 4))))
  (mSeq (mFz 4 (mIfS (mOr (mB (mOp fNe (mUn fRepr (mCall (sp_put_letters 64) (mCons (mU (dVarM 3)) (mCons (mVarM 4) mNil)))) (mU (dUn fRepr (dVar 6))))) (mOr (mB (mOp (fEqK true) (mVar 4) (mVar 7))) (mB (mOp fNe (mCall (sp_put_letters 64) (mCons (mU (dVarM 3)) (mCons (mPut (mU dNewD)) mNil))) (mVar 3)))))
  (mUS (dRet (dC (.bl false))))
  mNext))
  (mSeq (mDrop (mClear (mVar 4)))
  (mFz 7 (mIfS (mB (mOp fNe (mUn fRepr (mCall (sp_put_letters 64) (mCons (mU (dVarM 3)) (mCons (mVarM 7) mNil)))) (mU (dUn fRepr (dVar 6)))))
  (mUS (dRet (dC (.bl false))))
  mNext))))))))))))
  (mUS (dRet (dC (.bl true)))))
local macro_rules | `(tactic| walk_at "szz") => `(tactic| repeat (refine And.intro (by first | exact trivial | exact safe_nil | exact sz rfl) ?_))
theorem isi_tup {t : D} (h : (!t.isi .tuple) = false) : ∃ l, t = .tup l := by
  cases t <;> first | exact ⟨_, rfl⟩ | cases h
theorem isi_str {t : D} (h : (!t.isi .str) = false) : ∃ l, t = .str l := by
  cases t <;> first | exact ⟨_, rfl⟩ | cases h
theorem at0 {α : Type} (a : α) (l : List α) : atI (a :: l) 0 = some a := by
  unfold atI ixN
  rw [List.length_cons]
  simp
theorem at_s {α : Type} (a : α) (l : List α) (n : Nat) : atI (a :: l) ((n + 1 : Nat) : Int) = atI l (n : Int) := by
  have h1 : ∀ (m : List α) (k : Nat), atI m (k : Int) = m[k]? := fun m k => by
    cases e : m[k]? with
    | some x => exact atI_nat e
    | none =>
      unfold atI ixN
      have hl := List.getElem?_eq_none_iff.mp e
      rw [if_pos (by omega)]
      by_cases z : (k : Int) < m.length
      · omega
      · rw [if_neg (by omega)]
        rfl
  rw [h1, h1]
  rfl
theorem drop_get {α : Type} {l : List α} {i : Nat} {x : α} (h : l[i]? = some x) : l.drop i = x :: l.drop (i + 1) := by
  obtain ⟨hl, e⟩ := List.getElem?_eq_some_iff.mp h
  rw [← e]
  exact List.drop_eq_getElem_cons hl
theorem last_of {α : Type} (l : List α) (a : α) : atI (l ++ [a]) (-1) = some a := by
  have h : atI (l ++ [a]) (-1) = (l ++ [a])[l.length]? := by
    unfold atI ixN
    rw [List.length_append, List.length_singleton]
    rw [if_neg (by omega), if_pos (by omega)]
    show (l ++ [a])[(-1 + ((l.length + 1 : Nat) : Int)).toNat]? = _
    congr 1
    omega
  rw [h]
  simp
theorem rng_get {lo : Int} {n i : Nat} {x : D} (h : (rngD lo n)[i]? = some x) : x = .int (lo + i) ∧ i < n := by
  have hl : i < n := by
    have := (List.getElem?_eq_some_iff.mp h).1
    rw [rng_length] at this
    exact this
  unfold rngD at h
  rw [List.getElem?_map, List.getElem?_range hl] at h
  cases h
  exact ⟨rfl, hl⟩
theorem okT_cut {m : Nat} {l : List D} {lo hi : Option Int} (h : okT m (.tup l) = true) : ∀ d ∈ cutD l lo hi, okT m d = true := fun d hd => (okT_tup.mp h).1 d (mem_cut hd)
/-! ### kinds -/
def Ki.w : Ki → Str
  | .num => "num" | .tru => "truth" | .any _ => "any" | .lst _ => "list" | .pair _ _ => "pair" | .fn _ _ => "fun"
def Ki.ps : Ki → List D
  | .num => [] | .tru => [] | .any i => [.int (i : Int)] | .lst a => [a.d] | .pair a b => [a.d, b.d] | .fn a b => [a.d, b.d]
theorem Ki.d_eq (k : Ki) : k.d = .tup (.str k.w :: k.ps) := by cases k <;> rfl
theorem Ki.deep_pos (k : Ki) : 1 ≤ k.deep := by cases k <;> simp only [Ki.deep] <;> omega
theorem Ki.size_pos (k : Ki) : 1 ≤ k.size := by cases k <;> simp only [Ki.size] <;> omega
theorem okS_k {w : Str} (h : w.cps.toList.all (fun c => decide (c < 0x110000)) = true) : okS w := fun c hc => of_decide_eq_true (List.all_eq_true.mp h c hc)
theorem Ki.okw (k : Ki) : okS k.w := by cases k <;> simp only [Ki.w] <;> exact okS_k (by decide +kernel)
theorem Ki.eo : ∀ k : Ki, Eo k.deep k.d := by
  have ow : ∀ {w : Str} {n : Nat}, w.cps.toList.all (fun c => decide (c < 0x110000)) = true → Eo n (.str w) := fun h => eo_str (okS_k h)
  intro k
  induction k with
  | num => exact eo_tup (n := 0) (by simp only [List.forall_mem_cons]; exact ⟨ow (by decide +kernel), fun _ h => nomatch h⟩)
  | tru => exact eo_tup (n := 0) (by simp only [List.forall_mem_cons]; exact ⟨ow (by decide +kernel), fun _ h => nomatch h⟩)
  | any i => exact eo_tup (n := 0) (by simp only [List.forall_mem_cons]; exact ⟨ow (by decide +kernel), eo_int _, fun _ h => nomatch h⟩)
  | lst a ia => exact eo_tup (n := a.deep) (by simp only [List.forall_mem_cons]; exact ⟨ow (by decide +kernel), ia, fun _ h => nomatch h⟩)
  | pair a b ia ib => exact eo_tup (n := max a.deep b.deep) (by simp only [List.forall_mem_cons]; exact ⟨ow (by decide +kernel), ia.up (Nat.le_max_left _ _), ib.up (Nat.le_max_right _ _), fun _ h => nomatch h⟩)
  | fn a b ia ib => exact eo_tup (n := max a.deep b.deep) (by simp only [List.forall_mem_cons]; exact ⟨ow (by decide +kernel), ia.up (Nat.le_max_left _ _), ib.up (Nat.le_max_right _ _), fun _ h => nomatch h⟩)
theorem len_w_cell_at : ∀ ds xc R, sp_w_cell_at ds xc R → ds.length = 2 := by
  rintro ds xc R ⟨ns, k, rfl, _⟩
  rfl
theorem pure_w_cell_at : ∀ ds xc R, sp_w_cell_at ds xc R → d_w_cell_at X0 { nx := fun _ => R (.dat .non), rt := R } (args N_w_cell_at ds) := by
  rintro ds xc R ⟨ns, k, rfl, h0, q⟩
  show d_w_cell_at X0 _ [some (.dat (.scr ns)), some (.dat (.int k))]
  unfold d_w_cell_at
  walk_at "dl"
  refine ifB_dec (fun h => ?_) (fun _ => q 0)
  obtain ⟨n, hn, _⟩ := atI_get (l := ns) h0 h
  exact onO_of hn (q n)
theorem len_w_draw : ∀ ds xc R, sp_w_draw ds xc R → ds.length = 2 := by
  rintro ds xc R ⟨ns, k, rfl, _⟩
  rfl
theorem pow18 : CPow 10 18 := ⟨by decide, by decide, by decide⟩
theorem pow20 : CPow 10 20 := ⟨by decide, by decide, by decide⟩
theorem pure_w_draw : ∀ ds xc R, sp_w_draw ds xc R → d_w_draw X0 { nx := fun _ => R (.dat .non), rt := R } (args N_w_draw ds) := by
  rintro ds xc R ⟨ns, k, rfl, h0, h1, q⟩
  show d_w_draw X0 _ [some (.dat (.scr ns)), some (.dat (.int k)), none, none]
  unfold d_w_draw
  walk_at "dl"
  refine ⟨ns, k, rfl, h0, fun n => ?_⟩
  walk_at "dl"
  generalize (if n < 0 then -n else n) = c
  have a1 := Int.emod_nonneg c (show (2147483629 : Int) ≠ 0 by decide)
  have a2 := Int.emod_lt_of_pos c (show (0 : Int) < 2147483629 by decide)
  generalize c % 2147483629 = m at a1 a2
  have b1 := Int.emod_nonneg ((m + 7919 * k + 11) * 48271) (show (2147483647 : Int) ≠ 0 by decide)
  have b2 := Int.emod_lt_of_pos ((m + 7919 * k + 11) * 48271) (show (0 : Int) < 2147483647 by decide)
  refine ⟨by decide, mulOk (by decide) (by omega), mulOk (by omega) (by decide), by decide, pow18, mulOk (by omega) (by omega), by decide, by decide, trivial, by decide, trivial, ?_⟩
  generalize ((m + 7919 * k + 11) * 48271) % 2147483647 = x
  have c1 := Int.emod_nonneg (x * x) (show (2147483629 : Int) ≠ 0 by decide)
  have c2 := Int.emod_lt_of_pos (x * x) (show (0 : Int) < 2147483629 by decide)
  refine onO_of rfl ⟨by show 4 ≤ 15; decide, ⟨_, _, [(.inr "words", _), (.inr "left", _)], rfl, ?_, c1, by omega, by show 2 ≤ 20; decide, fun p h => ?_⟩, q⟩
  · split <;> omega
  · rcases List.mem_cons.mp h with rfl | h
    · exact ⟨fun e => absurd (Sum.inr.inj e) (by decide), fun e => absurd (Sum.inr.inj e) (by decide)⟩
    · rw [List.mem_singleton.mp h]
      exact ⟨fun e => absurd (Sum.inr.inj e) (by decide), fun e => absurd (Sum.inr.inj e) (by decide)⟩
theorem len_w_next : ∀ ds xc R, sp_w_next ds xc R → ds.length = 2 := by
  rintro ds xc R ⟨n, rfl, _⟩
  rfl
theorem pure_w_next : ∀ ds xc R, sp_w_next ds xc R → d_w_next X0 { nx := fun _ => R (.dat .non), rt := R } (args N_w_next ds) := by
  rintro ds xc R ⟨n, rfl, h0, h1, q⟩
  show d_w_next X0 _ [some (.dat .draw), some (.dat (.int n)), none]
  unfold d_w_next
  walk_at "dl"
  intro a ha
  refine ifB_dec (fun _ => ?_) (fun _ => ?_)
  · intro b hb
    refine ⟨h0, fun c hc => ⟨divOk h0 h1, ⟨Int.ediv_nonneg hc.1 (by omega), fun z => absurd z key_ne⟩, q _ (Int.emod_nonneg _ (by omega)) (Int.emod_lt_of_pos _ h0)⟩⟩
  · intro b hb
    have hb2 := hb.2 rfl
    have hb1 := hb.1
    have c1 := Int.emod_nonneg (b * 48271 + 11) (show (2147483647 : Int) ≠ 0 by decide)
    have c2 := Int.emod_lt_of_pos (b * 48271 + 11) (show (0 : Int) < 2147483647 by decide)
    refine ⟨mulOk (by omega) (by decide), by decide, ⟨c1, fun _ => by omega⟩, fun c hc d hd => ?_⟩
    have hc2 := hc.2 rfl
    have hc1 := hc.1
    have hd2 := hd.2 rfl
    have hd1 := hd.1
    exact ⟨mulOk (by omega) (by omega), by decide, divOk (by decide) (by decide), h0, q _ (Int.emod_nonneg _ (by omega)) (Int.emod_lt_of_pos _ h0)⟩
theorem len_w_pick : ∀ ds xc R, sp_w_pick ds xc R → ds.length = 2 := by
  rintro ds xc R ⟨c, l, rfl, _⟩
  rfl
theorem pure_w_pick : ∀ ds xc R, sp_w_pick ds xc R → d_w_pick X0 { nx := fun _ => R (.dat .non), rt := R } (args N_w_pick ds) := by
  rintro ds xc R ⟨c, l, rfl, hc, h0, h1, q⟩
  show d_w_pick X0 _ [some (.dat .draw), some (.dat c)]
  unfold d_w_pick
  rcases hc with rfl | rfl | ⟨z, rfl, hz, rfl⟩
  · walk_at "dl"
    refine ⟨_, rfl, by omega, by omega, fun r r0 r1 => ?_⟩
    walk_at "dl"
    obtain ⟨d, hd, hm⟩ := atI_get (l := l) r0 r1
    exact onO_of hd (q d hm)
  · walk_at "dl"
    refine ⟨_, rfl, by omega, by omega, fun r r0 r1 => ?_⟩
    walk_at "dl"
    obtain ⟨d, hd, hm⟩ := atI_get (l := l) r0 r1
    exact onO_of hd (q d hm)
  · walk_at "dl"
    rw [List.length_map, Array.length_toList] at h0 h1
    have e0 : z.length = z.cps.size := rfl
    refine ⟨small_sz (by omega), _, rfl, by omega, by omega, fun r r0 r1 => ?_⟩
    walk_at "dl"
    obtain ⟨d, hd, hm⟩ := atI_get (l := z.cps.toList) r0 (by rw [Array.length_toList]; omega)
    exact ⟨small_sz (by omega), onO_of hd (q _ (List.mem_map.mpr ⟨d, hm, rfl⟩))⟩
theorem len_w_letter_kind (n : Nat) : ∀ ds xc R, sp_w_letter_kind n ds xc R → ds.length = 2 := by
  rintro ds xc R ⟨k, rfl, _⟩
  rfl
theorem no_w_letter_kind : ∀ ds xc R, ¬ sp_w_letter_kind 0 ds xc R := by
  rintro ds xc R ⟨k, rfl, h, h2, _⟩
  omega
theorem mod2 {i : Int} : i % 2 = 0 ∨ i % 2 = 1 := by omega
theorem mod4 {i : Int} : i % 4 = 0 ∨ i % 4 = 1 ∨ i % 4 = 2 ∨ i % 4 = 3 := by omega
theorem pure_w_letter_kind (n : Nat) : ∀ ds xc R, sp_w_letter_kind (n + 1) ds xc R → d_w_letter_kind n X0 { nx := fun _ => R (.dat .non), rt := R } (args N_w_letter_kind ds) := by
  rintro ds xc R ⟨k, rfl, k0, k1, q⟩
  show d_w_letter_kind n X0 _ [some (.dat .draw), some (.dat (.int k)), none, none]
  unfold d_w_letter_kind
  refine seq_k fun K hK => ?_; walk_at "dl"
  refine ⟨9, rfl, by decide, by decide, fun w w0 w1 => ?_⟩
  subst hK
  refine seq_k fun K hK => ?_; walk_at "dl"
  refine ⟨⟨rfl, rfl⟩, ?_⟩
  rw [eqd_int]
  refine ifB_or2 ?_ fun hk hw => ?_
  · refine ⟨sz rfl, sz rfl, 3, rfl, by decide, by decide, fun a a0 a1 => ?_⟩
    walk_at "dl"
    refine ⟨sz rfl, pow20, sz rfl, trivial, _, [.int 0, .int 7, .int (10 ^ 20)], rfl, .inl rfl, by decide, by decide, fun d hd => ?_⟩
    walk_at "dl"
    refine ⟨sz rfl, sz rfl, by decide, ?_⟩
    have ea : D.tup [.str "any", .int a] = (Ki.any a.toNat).d := by
      show _ = D.tup [.str "any", .int (a.toNat : Int)]
      rw [Int.toNat_of_nonneg a0]
    have ed : ∃ i : Nat, d = .int (i : Int) ∧ i ≤ 10 ^ 20 := by
      simp only [List.mem_cons, List.not_mem_nil, or_false] at hd
      rcases hd with rfl | rfl | rfl
      · exact ⟨0, rfl, by decide⟩
      · exact ⟨7, rfl, by decide⟩
      · exact ⟨10 ^ 20, rfl, Nat.le_refl _⟩
    obtain ⟨i, rfl, i20⟩ := ed
    rw [ea]
    have dp : ((1 : Nat) : Int) ≤ k + 1 := by omega
    rcases mod4 (i := w) with e | e | e | e <;> rw [e]
    · exact onO_of (a := Ki.num.d) rfl (q .num dp trivial)
    · exact onO_of (a := Ki.tru.d) rfl (q .tru dp trivial)
    · exact onO_of (a := (Ki.any a.toNat).d) rfl (q (.any a.toNat) dp (show a.toNat ≤ 10 ^ 20 by omega))
    · exact onO_of (a := (Ki.any i).d) rfl (q (.any i) dp i20)
  subst hK
  refine seq_k fun K hK => ?_; walk_at "dl"
  refine ⟨k - 1, rfl, by omega, by omega, fun x hx lx => ?_⟩
  subst hK
  refine seq_k fun K hK => ?_; walk_at "dl"
  refine ifB_dec (fun h6 => ?_) (fun h6 => ?_)
  · refine ⟨sz rfl, q (.lst x) ?_ lx⟩
    show ((x.deep + 1 : Nat) : Int) ≤ _
    omega
  · subst hK
    walk_at "dl"
    refine ⟨sz rfl, by decide, ?_⟩
    have go : ∀ s : Str, (s = "pair" ∨ s = "fun") → sp_w_letter_kind n [D.draw, D.int (k - 1)] (fun _ => False) fun y => asD (fun d => [D.str s, x.d, d].length ≤ sizeLine ∧ R (.dat (.tup [D.str s, x.d, d]))) y := by
      intro s hs
      refine ⟨k - 1, rfl, by omega, by omega, fun y hy ly => ⟨sz rfl, ?_⟩⟩
      rcases hs with rfl | rfl
      · refine q (.pair x y) ?_ ⟨lx, ly⟩
        show ((max x.deep y.deep + 1 : Nat) : Int) ≤ _
        omega
      · refine q (.fn x y) ?_ ⟨lx, ly⟩
        show ((max x.deep y.deep + 1 : Nat) : Int) ≤ _
        omega
    rcases mod2 (i := w) with e | e <;> rw [e]
    · exact onO_of (a := D.str "pair") rfl (go "pair" (.inl rfl))
    · exact onO_of (a := D.str "fun") rfl (go "fun" (.inr rfl))
theorem len_w_sized (n : Nat) : ∀ ds xc R, sp_w_sized n ds xc R → ds.length = 2 := by
  rintro ds xc R ⟨k, rfl, _⟩
  rfl
theorem no_w_sized : ∀ ds xc R, ¬ sp_w_sized 0 ds xc R := by
  rintro ds xc R ⟨k, rfl, _, _, h, _⟩
  omega
theorem gD_one : ∀ k : Nat, 2 ≤ k → k ≤ 200 → k = 2 ∨ k % 7 = 3 → gD (k - 1) + 1 ≤ gD k := by
  have q : (List.range 201).all (fun k => !decide (2 ≤ k) || !(decide (k = 2) || decide (k % 7 = 3)) || decide (gD (k - 1) + 1 ≤ gD k)) = true := by decide +kernel
  intro k h1 h2 h3
  have z := List.all_eq_true.mp q k (List.mem_range.mpr (by omega))
  simp only [Bool.or_eq_true, Bool.not_eq_true', decide_eq_true_eq, decide_eq_false_iff_not, Bool.or_eq_false_iff] at z
  omega
theorem gD_two : ∀ k a : Nat, 3 ≤ k → k ≤ 200 → a < 5 → gD (1 + (k - 2) * (3 + a) / 10) + 1 ≤ gD k ∧ gD (k - 1 - (1 + (k - 2) * (3 + a) / 10)) + 1 ≤ gD k := by
  have q : (List.range 201).all (fun k => (List.range 5).all fun a => !decide (3 ≤ k) || (decide (gD (1 + (k - 2) * (3 + a) / 10) + 1 ≤ gD k) && decide (gD (k - 1 - (1 + (k - 2) * (3 + a) / 10)) + 1 ≤ gD k))) = true := by decide +kernel
  intro k a h1 h2 h3
  have z := List.all_eq_true.mp (List.all_eq_true.mp q k (List.mem_range.mpr (by omega))) a (List.mem_range.mpr h3)
  rw [decide_eq_true h1] at z
  simpa using z
theorem pure_w_sized (n : Nat) : ∀ ds xc R, sp_w_sized (n + 1) ds xc R → d_w_sized n X0 { nx := fun _ => R (.dat .non), rt := R } (args N_w_sized ds) := by
  rintro ds xc R ⟨k, rfl, k0, k2, k1, q⟩
  show d_w_sized n X0 _ [some (.dat .draw), some (.dat (.int (k : Int))), none, none]
  unfold d_w_sized
  refine seq_k fun K hK => ?_; walk_at "dl"
  refine ⟨⟨rfl, rfl⟩, ?_⟩
  rw [eqd_int]
  refine ifB_dec (fun hk => ?_) (fun hk => ?_)
  · have hk : k = 1 := by omega
    subst hk
    refine ⟨0, rfl, by decide, by decide, fun x hx lx => ?_⟩
    have h1 : x.deep ≤ 1 := by omega
    refine q x ?_ h1 lx
    cases x with
    | lst a => have : a.deep + 1 ≤ 1 := h1; cases a <;> (unfold Ki.deep at this; omega)
    | pair a b => have : max a.deep b.deep + 1 ≤ 1 := h1; cases a <;> (unfold Ki.deep at this; omega)
    | fn a b => have : max a.deep b.deep + 1 ≤ 1 := h1; cases a <;> (unfold Ki.deep at this; omega)
    | _ => rfl
  subst hK
  refine seq_k fun K hK => ?_; walk_at "dl"
  refine ⟨⟨rfl, rfl⟩, ?_⟩
  rw [eqd_int]
  have lst : (k = 2 ∨ k % 7 = 3) → sp_w_sized n [D.draw, D.int ((k : Int) - 1)] (fun _ => False) fun y => asD (fun d => [D.str "list", d].length ≤ sizeLine ∧ R (.dat (.tup [D.str "list", d]))) y := by
    intro h
    have g1 := gD_one k (by omega) k2 h
    refine ⟨k - 1, by rw [show ((k - 1 : Nat) : Int) = (k : Int) - 1 by omega], by omega, by omega, by omega, fun x hx dx lx => ⟨sz rfl, q (.lst x) ?_ ?_ lx⟩⟩
    · show x.size + 1 = _
      omega
    · show x.deep + 1 ≤ _
      omega
  refine ifB_dec (fun h2 => lst (.inl (by omega))) (fun h2 => ?_)
  refine ⟨by decide, ⟨rfl, rfl⟩, ?_⟩
  rw [eqd_int]
  have two : K [some (.dat .draw), some (.dat (.int (k : Int))), none, none] := by
    subst hK
    refine seq_k fun K hK => ?_; walk_at "dl"
    refine ⟨5, rfl, by decide, by decide, fun a a0 a1 => ?_⟩
    have m1 : 0 ≤ ((k : Int) - 2) * (3 + a) := Int.mul_nonneg (by omega) (by omega)
    have m2 : ((k : Int) - 2) * (3 + a) ≤ ((k : Int) - 2) * 7 := Int.mul_le_mul_of_nonneg_left (by omega) (by omega)
    have gd := gD_two k a.toNat (by omega) k2 (by omega)
    have el : (((1 + (k - 2) * (3 + a.toNat) / 10 : Nat)) : Int) = 1 + ((k : Int) - 2) * (3 + a) / 10 := by
      rw [Int.natCast_add, Int.natCast_ediv, Int.natCast_mul, Int.natCast_add]
      rw [show ((k - 2 : Nat) : Int) = (k : Int) - 2 by omega, show ((a.toNat : Nat) : Int) = a by omega]
      rfl
    walk_at "dl"
    refine ⟨mulOk (by omega) (by omega), divOk (by decide) (by decide), ?_⟩
    generalize ((k : Int) - 2) * (3 + a) = m at m1 m2 el
    have d1 : 0 ≤ m / 10 := by omega
    have d2 : m / 10 ≤ (k : Int) - 3 := by omega
    generalize m / 10 = l at d1 d2 el
    generalize 1 + (k - 2) * (3 + a.toNat) / 10 = ln at gd el
    subst hK
    refine seq_k fun K hK => ?_; walk_at "dl"
    refine ⟨by decide, trivial, _, [.str "pair", .str "fun"], rfl, .inl rfl, by decide, by decide, fun w hw => ?_⟩
    subst hK
    walk_at "dl"
    refine ⟨ln, by rw [el], by omega, by omega, by omega, fun x hx dx lx => ?_⟩
    walk_at "dl"
    refine ⟨k - 1 - ln, by rw [show ((k - 1 - ln : Nat) : Int) = (k : Int) - 1 - (1 + l) by omega], by omega, by omega, by omega, fun y hy dy ly => ?_⟩
    walk_at "dl"
    refine ⟨sz rfl, ?_⟩
    simp only [List.mem_cons, List.not_mem_nil, or_false] at hw
    rcases hw with rfl | rfl
    · refine q (.pair x y) ?_ ?_ ⟨lx, ly⟩
      · show x.size + y.size + 1 = _
        omega
      · show max x.deep y.deep + 1 ≤ _
        omega
    · refine q (.fn x y) ?_ ?_ ⟨lx, ly⟩
      · show x.size + y.size + 1 = _
        omega
      · show max x.deep y.deep + 1 ≤ _
        omega
  refine ifB_dec (fun h3 => ?_) (fun _ => two)
  refine ⟨2, rfl, by decide, by decide, fun b b0 b1 => ?_⟩
  walk_at "dl"
  exact ⟨⟨rfl, rfl⟩, ifB_of (fun _ => lst (.inr (by omega))) (fun _ => two)⟩
theorem Tm.take_snoc {α : Type} {l : List α} {i : Nat} {x : α} (h : l[i]? = some x) : l.take (i + 1) = l.take i ++ [x] := by rw [List.take_add_one, h]; rfl
/-! ### comprehensions and loops that leave the store alone -/
theorem keep_refl {cs : Option Addr} {S : Sto} : Keep cs S S := by
  cases cs <;> first | trivial | rfl
theorem lcm_list {tg : DG} {elt : ME} {own : List Nat} {r : DEnv} {P : Val → Sto → Prop} {items : List D} {cs : Option Addr} {S : Sto} (out : List D) (hl : items.length = out.length) (h5 : out.length ≤ 100000)
    (turn : ∀ (i : Nat) (x d : D), items[i]? = some x → out[i]? = some d → ∀ R : D → Sto → Prop, R d S → tg x (wp r own) fun r2 => elt XM0 r2 S fun y S3 => asD (fun e => R e S3) y) (fin : P (.tmp (.lst out)) S) : LcM tg mYes elt own r P items cs S := by
  refine ⟨fun i acc S' => acc = out.take i ∧ S' = S, ⟨rfl, rfl⟩, fun i acc S' h => by rw [h.2]; exact keep_refl, fun i x acc S' hx h => ?_, fun acc S' h => by rw [h.1, h.2, hl, List.take_length]; exact fin⟩
  obtain ⟨rfl, rfl⟩ := h
  have hi := (List.getElem?_eq_some_iff.mp hx).1
  have hd : out[i]? = some (out[i]'(by omega)) := List.getElem?_eq_getElem _
  refine turn i x _ hx hd (fun e S3 => (out.take i).length < sizeLine ∧ (out.take i ++ [e] = out.take (i + 1) ∧ S3 = S')) ⟨small_lt (by rw [List.length_take]; omega), ?_, rfl⟩
  rw [Tm.take_snoc hd]
/-- a comprehension of things that all are so -/
theorem lcm_same {tg : DG} {elt : ME} {own : List Nat} {r : DEnv} {P : Val → Sto → Prop} {items : List D} {cs : Option Addr} {S : Sto} (d : D) (h5 : items.length ≤ 100000)
    (turn : ∀ x ∈ items, ∀ R : D → Sto → Prop, R d S → tg x (wp r own) fun r2 => elt XM0 r2 S fun y S3 => asD (fun e => R e S3) y) (fin : P (.tmp (.lst (List.replicate items.length d))) S) : LcM tg mYes elt own r P items cs S := by
  refine lcm_list (List.replicate items.length d) (by rw [List.length_replicate]) (by rw [List.length_replicate]; exact h5) (fun i x e hx he R hR => ?_) fin
  have e1 := List.mem_of_getElem? he
  rw [List.eq_of_mem_replicate e1] at hR
  exact turn x (List.mem_of_getElem? hx) R hR
/-! ### letters put in -/
theorem getK_val (t : Kt) (i : Nat) : valD (ktD t) (.inl (i : Int)) = (getK t i).map Ki.d := by
  unfold valD ktD getK
  rw [List.find?_map]
  have e : ((fun kv : Key × D => decide (kv.1 = .inl (i : Int))) ∘ fun p : Nat × Ki => ((.inl (p.1 : Int) : Key), p.2.d)) = fun p : Nat × Ki => decide (p.1 = i) := by
    funext p
    show decide ((.inl (p.1 : Int) : Key) = .inl (i : Int)) = decide (p.1 = i)
    by_cases h : p.1 = i
    · rw [h]
      simp
    · rw [decide_eq_false h, decide_eq_false fun z => h (by have := Sum.inl.inj z; omega)]
  rw [e]
  cases t.find? fun p => decide (p.1 = i) <;> rfl
theorem len_put_letters (n : Nat) : ∀ ds S xc R, sp_put_letters n ds S xc R → ds.length = 2 := by
  rintro ds S xc R ⟨x, p, t, rfl, _⟩
  rfl
theorem no_put_letters : ∀ ds S xc R, ¬ sp_put_letters 0 ds S xc R := by
  rintro ds S xc R ⟨x, p, t, _, h, _⟩
  omega
/-- the own parts -/
def kparts : Ki → List Ki
  | .lst a => [a] | .pair a b => [a, b] | .fn a b => [a, b] | _ => []
theorem kparts_ps {x : Ki} (h : x.w ≠ "any") : x.ps = (kparts x).map Ki.d := by cases x <;> first | rfl | exact absurd rfl h
theorem kparts_put (t : Kt) {x : Ki} (h : x.w ≠ "any") : (putKi t x).d = .tup (.str x.w :: (kparts x).map fun a => (putKi t a).d) := by cases x <;> first | rfl | exact absurd rfl h
theorem kparts_deep {x a : Ki} (h : a ∈ kparts x) : a.deep < x.deep := by
  cases x <;> simp [kparts] at h <;> (try rcases h with rfl | rfl) <;> simp only [Ki.deep] <;> omega
theorem kparts_len (x : Ki) : (kparts x).length ≤ 2 := by cases x <;> simp [kparts]
theorem pure_put_letters (n : Nat) : ∀ ds S xc R, sp_put_letters (n + 1) ds S xc R → d_put_letters n XM0 { nx := fun _ S => R (.dat .non) S, rt := R } (args N_put_letters ds) S := by
  rintro ds S xc R ⟨x, p, t, rfl, dp, hS, q⟩
  show d_put_letters n XM0 _ [some (.dat x.d), some (.dat (.obj p)), none] S
  unfold d_put_letters
  have de := x.d_eq
  have ow := x.okw
  rw [de]
  refine mseq_k fun K hK => ?_; walk_at "ml"
  refine onO_of (at0 _ _) ⟨⟨eqOk_str ow, eqOk_str (okS_k (by decide +kernel))⟩, ?_⟩
  rw [eqd_str]
  refine ifB_dec (fun hw => ?_) (fun hw => ?_)
  · have ea : ∃ i, x = .any i := by
      cases x with
      | any i => exact ⟨i, rfl⟩
      | num => exact absurd hw (show ¬ ("num" : Str) = "any" by decide +kernel)
      | tru => exact absurd hw (show ¬ ("truth" : Str) = "any" by decide +kernel)
      | lst a => exact absurd hw (show ¬ ("list" : Str) = "any" by decide +kernel)
      | pair a b => exact absurd hw (show ¬ ("pair" : Str) = "any" by decide +kernel)
      | fn a b => exact absurd hw (show ¬ ("fun" : Str) = "any" by decide +kernel)
    obtain ⟨i, rfl⟩ := ea
    rw [vw_at hS]
    walk_at "ml"
    refine onO_of (a := D.int (i : Int)) rfl ?_
    refine onO_of (show keyD (.int (i : Int)) = some (.inl (i : Int)) from rfl) ?_
    rw [getK_val]
    cases e : getK t i with
    | none =>
      have e2 : putKi t (.any i) = .any i := by show (getK t i).getD _ = _; rw [e]; rfl
      rw [e2] at q
      exact q
    | some k =>
      have e2 : putKi t (.any i) = k := by show (getK t i).getD _ = _; rw [e]; rfl
      rw [e2] at q
      exact q
  subst hK
  walk_at "ml"
  have kl := kparts_len x
  rw [cut_tail, kparts_ps hw]
  refine lcm_list ((kparts x).map fun a => (putKi t a).d) (by rw [List.length_map, List.length_map]) (by rw [List.length_map]; omega) (fun i d e hx hd Rr hR => ?_) ?_
  · rw [List.getElem?_map] at hx hd
    obtain ⟨a, ha, rfl⟩ := Option.map_eq_some_iff.mp hx
    rw [ha] at hd
    cases hd
    have dl := kparts_deep (List.mem_of_getElem? ha)
    refine gN_mk ?_
    walk_at "ml"
    exact ⟨a, p, t, rfl, by omega, hS, hR⟩
  · walk_at "ml"
    rw [cut_take _ (by decide)]
    rw [kparts_put t hw] at q
    refine ⟨?_, q⟩
    rw [List.length_map]
    exact small_sz (by show 1 + _ ≤ _; omega)
theorem len_w_put (n : Nat) : ∀ ds S xc R, sp_w_put n ds S xc R → ds.length = 2 := len_put_letters n
theorem no_w_put : ∀ ds S xc R, ¬ sp_w_put 0 ds S xc R := no_put_letters
theorem pure_w_put (n : Nat) : ∀ ds S xc R, sp_w_put (n + 1) ds S xc R → d_w_put n XM0 { nx := fun _ S => R (.dat .non) S, rt := R } (args N_w_put ds) S := pure_put_letters n
/-! ### what repr tells of a kind -/
theorem putKi_deep {t : Kt} (ht : KtOk t) : ∀ x : Ki, (putKi t x).deep ≤ x.deep + 11 ∧ (putKi t x).size ≤ 60 * x.size ∧ (x.lets → (putKi t x).lets) := by
  intro x
  induction x with
  | any i =>
    show ((getK t i).getD (.any i)).deep ≤ 1 + 11 ∧ ((getK t i).getD (.any i)).size ≤ 60 * 1 ∧ _
    cases e : getK t i with
    | none => exact ⟨by show 1 ≤ 12; decide, by show 1 ≤ 60; decide, fun h => by show ((getK t i).getD (.any i)).lets; rw [e]; exact h⟩
    | some k =>
      have hk : ∃ p ∈ t, p.2 = k := by
        unfold getK at e
        obtain ⟨p, h1, h2⟩ := Option.map_eq_some_iff.mp e
        exact ⟨p, List.mem_of_find?_eq_some h1, h2⟩
      obtain ⟨p, hp, rfl⟩ := hk
      have q := ht.2.2 p hp
      exact ⟨by show p.2.deep ≤ 12; omega, by show p.2.size ≤ 60; omega, fun _ => by show ((getK t i).getD (.any i)).lets; rw [e]; exact q.2.2⟩
  | num => exact ⟨by show 1 ≤ 12; decide, by show 1 ≤ 60; decide, fun h => h⟩
  | tru => exact ⟨by show 1 ≤ 12; decide, by show 1 ≤ 60; decide, fun h => h⟩
  | lst a ia =>
    refine ⟨?_, ?_, ia.2.2⟩
    · show (putKi t a).deep + 1 ≤ a.deep + 1 + 11
      omega
    · show (putKi t a).size + 1 ≤ 60 * (a.size + 1)
      omega
  | pair a b ia ib =>
    refine ⟨?_, ?_, fun h => ⟨ia.2.2 h.1, ib.2.2 h.2⟩⟩
    · show max (putKi t a).deep (putKi t b).deep + 1 ≤ max a.deep b.deep + 1 + 11
      omega
    · show (putKi t a).size + (putKi t b).size + 1 ≤ 60 * (a.size + b.size + 1)
      omega
  | fn a b ia ib =>
    refine ⟨?_, ?_, fun h => ⟨ia.2.2 h.1, ib.2.2 h.2⟩⟩
    · show max (putKi t a).deep (putKi t b).deep + 1 ≤ max a.deep b.deep + 1 + 11
      omega
    · show (putKi t a).size + (putKi t b).size + 1 ≤ 60 * (a.size + b.size + 1)
      omega
theorem py_tup (l : List D) : py (.tup l) = .tuple (pyL l) := by unfold py; rfl
theorem py_str (x : Str) : py (.str x) = .str x := by unfold py; rfl
theorem py_int (x : Int) : py (.int x) = .int x := by unfold py; rfl
theorem pyL_cons (d : D) (r : List D) : pyL (d :: r) = py d :: pyL r := by rw [pyL]
theorem pyL_nil : pyL [] = [] := by rw [pyL]
theorem tt_len (ts : List Str) : (tupleText ts).length ≤ 3 + (ts.map fun t => t.length + 2).sum := by
  have hj : (Str.join ", " ts).length ≤ (ts.map fun t => t.length + 2).sum := by
    cases ts with
    | nil => exact Nat.zero_le _
    | cons a r =>
      have h := join_length_add (a :: r) (by simp)
      have e : piled (a :: r) = ((a :: r).map fun t => t.length + 2).sum := rfl
      omega
  unfold tupleText
  rw [len_app, len_app]
  have h1 : ("(" : Str).length = 1 := by decide
  split
  · have h2 : (Str.ofString ",)").length = 2 := by decide
    show ("(" : Str).length + (Str.join ", " ts).length + (Str.ofString ",)").length ≤ _
    omega
  · have h2 : (Str.ofString ")").length = 1 := by decide
    show ("(" : Str).length + (Str.join ", " ts).length + (Str.ofString ")").length ≤ _
    omega
theorem rw_len : (reprText "num").length ≤ 10 ∧ (reprText "truth").length ≤ 10 ∧ (reprText "any").length ≤ 10 ∧ (reprText "list").length ≤ 10 ∧ (reprText "pair").length ≤ 10 ∧ (reprText "fun").length ≤ 10 := by decide +kernel
theorem int_len {i : Nat} (h : i ≤ 10 ^ 20) : (toString (i : Int) : Str).length ≤ 22 := by
  have e := int_text_length_le10 (k := 21) (a := (i : Int)) (by decide) (Nat.lt_of_le_of_lt (show (i : Int).natAbs ≤ 10 ^ 20 by omega) (by decide))
  show (Str.ofString (toString (i : Int))).length ≤ 22
  rw [PySem.ofString_length]
  exact e
theorem shown_len : ∀ x : Ki, x.lets → (py x.d).shown.length ≤ 50 * x.size := by
  have rl := rw_len
  have two : ∀ (w : Str) (a b : Ki), (reprText w).length ≤ 10 → (py a.d).shown.length ≤ 50 * a.size → (py b.d).shown.length ≤ 50 * b.size → (py (.tup [.str w, a.d, b.d])).shown.length ≤ 50 * (a.size + b.size + 1) := by
    intro w a b hw ha hb
    have h := tt_len [reprText w, (py a.d).shown, (py b.d).shown]
    simp only [List.map_cons, List.map_nil, List.sum_cons, List.sum_nil] at h
    rw [show (py (.tup [.str w, a.d, b.d])).shown = tupleText [reprText w, (py a.d).shown, (py b.d).shown] by simp only [py_tup, pyL_cons, pyL_nil, py_str, PyData.shown, PyData.shownAll]]
    omega
  intro x
  induction x with
  | num =>
    intro _
    have h := tt_len [reprText "num"]
    simp only [List.map_cons, List.map_nil, List.sum_cons, List.sum_nil] at h
    rw [show (py Ki.num.d).shown = tupleText [reprText "num"] by simp only [Ki.d, py_tup, pyL_cons, pyL_nil, py_str, py_int, PyData.shown, PyData.shownAll]]
    show _ ≤ 50 * 1
    omega
  | tru =>
    intro _
    have h := tt_len [reprText "truth"]
    simp only [List.map_cons, List.map_nil, List.sum_cons, List.sum_nil] at h
    rw [show (py Ki.tru.d).shown = tupleText [reprText "truth"] by simp only [Ki.d, py_tup, pyL_cons, pyL_nil, py_str, py_int, PyData.shown, PyData.shownAll]]
    show _ ≤ 50 * 1
    omega
  | any i =>
    intro hl
    have il := int_len hl
    have h := tt_len [reprText "any", toString (i : Int)]
    simp only [List.map_cons, List.map_nil, List.sum_cons, List.sum_nil] at h
    rw [show (py (Ki.any i).d).shown = tupleText [reprText "any", toString (i : Int)] by simp only [Ki.d, py_tup, pyL_cons, pyL_nil, py_str, py_int, PyData.shown, PyData.shownAll]]
    show _ ≤ 50 * 1
    omega
  | lst a ia =>
    intro hl
    have ha := ia hl
    have h := tt_len [reprText "list", (py a.d).shown]
    simp only [List.map_cons, List.map_nil, List.sum_cons, List.sum_nil] at h
    rw [show (py (Ki.lst a).d).shown = tupleText [reprText "list", (py a.d).shown] by
      show (py (.tup [.str "list", a.d])).shown = _
      simp only [py_tup, pyL_cons, pyL_nil, py_str, PyData.shown, PyData.shownAll]]
    show _ ≤ 50 * (a.size + 1)
    omega
  | pair a b ia ib => exact fun hl => two "pair" a b rl.2.2.2.2.1 (ia hl.1) (ib hl.2)
  | fn a b ia ib => exact fun hl => two "fun" a b rl.2.2.2.2.2 (ia hl.1) (ib hl.2)
theorem show_ki : ∀ x : Ki, x.lets → (py x.d).showable = true ∧ (py x.d).hasDict = false := by
  intro x
  induction x with
  | num => intro _; exact ⟨by simp only [Ki.d, py_tup, pyL_cons, pyL_nil, py_str, PyData.showable, PyData.showableAll, Bool.and_self], by simp only [Ki.d, py_tup, pyL_cons, pyL_nil, py_str, PyData.hasDict, PyData.hasDictAll, Bool.or_self]⟩
  | tru => intro _; exact ⟨by simp only [Ki.d, py_tup, pyL_cons, pyL_nil, py_str, PyData.showable, PyData.showableAll, Bool.and_self], by simp only [Ki.d, py_tup, pyL_cons, pyL_nil, py_str, PyData.hasDict, PyData.hasDictAll, Bool.or_self]⟩
  | any i =>
    intro h
    have hi : (i : Int).natAbs.log2 < 1920 := by
      by_cases z : (i : Int).natAbs = 0
      · rw [z]; decide
      · exact (Nat.log2_lt z).mpr (Nat.lt_of_le_of_lt (show (i : Int).natAbs ≤ 10 ^ 20 from by have h : i ≤ 10 ^ 20 := h; omega) (by decide))
    exact ⟨by simp only [Ki.d, py_tup, pyL_cons, pyL_nil, py_str, py_int, PyData.showable, PyData.showableAll, hi, decide_true, Bool.and_self], by simp only [Ki.d, py_tup, pyL_cons, pyL_nil, py_str, py_int, PyData.hasDict, PyData.hasDictAll, Bool.or_self]⟩
  | lst a ia =>
    intro h
    have q := ia h
    exact ⟨by simp only [Ki.d, py_tup, pyL_cons, pyL_nil, py_str, PyData.showable, PyData.showableAll, q.1, Bool.and_self], by simp only [Ki.d, py_tup, pyL_cons, pyL_nil, py_str, PyData.hasDict, PyData.hasDictAll, q.2, Bool.or_self]⟩
  | pair a b ia ib =>
    intro h
    have q := ia h.1
    have r := ib h.2
    exact ⟨by simp only [Ki.d, py_tup, pyL_cons, pyL_nil, py_str, PyData.showable, PyData.showableAll, q.1, r.1, Bool.and_self], by simp only [Ki.d, py_tup, pyL_cons, pyL_nil, py_str, PyData.hasDict, PyData.hasDictAll, q.2, r.2, Bool.or_self]⟩
  | fn a b ia ib =>
    intro h
    have q := ia h.1
    have r := ib h.2
    exact ⟨by simp only [Ki.d, py_tup, pyL_cons, pyL_nil, py_str, PyData.showable, PyData.showableAll, q.1, r.1, Bool.and_self], by simp only [Ki.d, py_tup, pyL_cons, pyL_nil, py_str, PyData.hasDict, PyData.hasDictAll, q.2, r.2, Bool.or_self]⟩
theorem rpr_ki {x : Ki} (h : x.lets) (hd : x.deep ≤ 60) (hs : x.size ≤ 12000) : (∃ l, x.d = .tup l ∨ x.d = .lst l) ∧ rprOk x.d := by
  have e := x.eo
  have q := show_ki x h
  have l := shown_len x h
  exact ⟨⟨_, .inl x.d_eq⟩, e.1, q.1, q.2, Nat.le_trans e.2.2 hd, Nat.le_trans l (by show _ ≤ 2 ^ 24; omega)⟩
theorem putKi_nil : ∀ x : Ki, putKi [] x = x := by
  intro x
  induction x with
  | lst a ia => show Ki.lst (putKi [] a) = _; rw [ia]
  | pair a b ia ib => show Ki.pair (putKi [] a) (putKi [] b) = _; rw [ia, ib]
  | fn a b ia ib => show Ki.fn (putKi [] a) (putKi [] b) = _; rw [ia, ib]
  | _ => rfl
/-- a kind put down for a letter -/
def putT (t : Kt) (i : Nat) (k : Ki) : Kt := if (t.any fun p => decide (p.1 = i)) = true then t.map (fun p => if p.1 = i then (p.1, k) else p) else t ++ [(i, k)]
theorem putT_d (t : Kt) (i : Nat) (k : Ki) : putD (ktD t) (.inl (i : Int)) k.d = ktD (putT t i k) := by
  have e : ∀ p : Nat × Ki, decide (((.inl (p.1 : Int) : Key)) = .inl (i : Int)) = decide (p.1 = i) := fun p => by
    by_cases h : p.1 = i
    · rw [h]
      simp
    · rw [decide_eq_false h, decide_eq_false fun z => h (by have := Sum.inl.inj z; omega)]
  unfold putD ktD putT
  rw [List.any_map]
  rw [show ((fun kv : Key × D => decide (kv.1 = .inl (i : Int))) ∘ fun p : Nat × Ki => ((.inl (p.1 : Int) : Key), p.2.d)) = fun p : Nat × Ki => decide (p.1 = i) from funext fun p => e p]
  split
  · rw [List.map_map, List.map_map]
    refine List.map_congr_left fun p _ => ?_
    show (if (.inl (p.1 : Int) : Key) = .inl (i : Int) then ((.inl (p.1 : Int) : Key), k.d) else ((.inl (p.1 : Int) : Key), p.2.d)) = ((.inl (((if p.1 = i then (p.1, k) else p)).1 : Int) : Key), ((if p.1 = i then (p.1, k) else p)).2.d)
    by_cases h : p.1 = i
    · rw [if_pos h, if_pos (by rw [h])]
    · rw [if_neg h, if_neg fun z => h (by have := Sum.inl.inj z; omega)]
  · rw [List.map_append]
    rfl
theorem putT_ok {t : Kt} (h : KtOk t) (i : Nat) {k : Ki} (l : t.length ≤ 50) (hk : k.deep ≤ 11 ∧ k.size ≤ 60 ∧ k.lets) : KtOk (putT t i k) ∧ (putT t i k).length ≤ t.length + 1 := by
  unfold putT
  split
  · refine ⟨⟨?_, by rw [List.length_map]; omega, fun p hp => ?_⟩, by rw [List.length_map]; omega⟩
    · rw [List.map_map, show ((fun p : Nat × Ki => p.1) ∘ fun p : Nat × Ki => if p.1 = i then (p.1, k) else p) = fun p => p.1 from funext fun p => by show (if p.1 = i then (p.1, k) else p).1 = p.1; split <;> rfl]
      exact h.1
    · obtain ⟨q, hq, rfl⟩ := List.mem_map.mp hp
      split
      · exact hk
      · exact h.2.2 q hq
  · rename_i hn
    refine ⟨⟨?_, by rw [List.length_append]; show _ + 1 ≤ _; omega, fun p hp => ?_⟩, by rw [List.length_append]; exact Nat.le_refl _⟩
    · rw [List.map_append, List.nodup_append]
      refine ⟨h.1, by simp, fun a ha b hb e => hn ?_⟩
      have eb : b = i := by simpa using hb
      obtain ⟨p, hp, e2⟩ := List.mem_map.mp ha
      exact List.any_eq_true.mpr ⟨p, hp, decide_eq_true (by rw [e2, e, eb])⟩
    · rcases List.mem_append.mp hp with z | z
      · exact h.2.2 p z
      · rw [List.mem_singleton.mp z]; exact hk
def ky (n : Nat) : Key := .inl (n : Int)
theorem ky_inj {a b : Nat} (h : ky a = ky b) : a = b := by
  have := Sum.inl.inj h
  omega
theorem kt_same {t : Kt} (h : KtOk t) : dsame (ktD t) := by
  refine ⟨?_, fun p hp => ?_⟩
  · have e : (ktD t).map (·.1) = (t.map (·.1)).map ky := by unfold ktD; rw [List.map_map, List.map_map]; rfl
    rw [e]
    exact List.pairwise_map.mpr (h.1.imp fun {a b} ne z => ne (ky_inj z))
  · obtain ⟨q, hq, rfl⟩ := List.mem_map.mp hp
    have e := q.2.eo
    have hd := h.2.2 q hq
    exact ⟨e.1, e.2.1, Nat.le_trans e.2.2 (by omega), e.refl⟩
theorem ki_size (x : Ki) : x.size + 1 ≤ 2 ^ x.deep := by
  induction x with
  | lst a ia =>
    show a.size + 1 + 1 ≤ 2 ^ (a.deep + 1)
    rw [Nat.pow_succ]
    have := Nat.one_le_two_pow (n := a.deep)
    omega
  | pair a b ia ib =>
    show a.size + b.size + 1 + 1 ≤ 2 ^ (max a.deep b.deep + 1)
    rw [Nat.pow_succ]
    have h1 := Nat.pow_le_pow_right (n := 2) (by decide) (Nat.le_max_left a.deep b.deep)
    have h2 := Nat.pow_le_pow_right (n := 2) (by decide) (Nat.le_max_right a.deep b.deep)
    omega
  | fn a b ia ib =>
    show a.size + b.size + 1 + 1 ≤ 2 ^ (max a.deep b.deep + 1)
    rw [Nat.pow_succ]
    have h1 := Nat.pow_le_pow_right (n := 2) (by decide) (Nat.le_max_left a.deep b.deep)
    have h2 := Nat.pow_le_pow_right (n := 2) (by decide) (Nat.le_max_right a.deep b.deep)
    omega
  | _ => show 1 + 1 ≤ 2 ^ 1; decide
theorem gD_most {k : Nat} (h : k ≤ 200) : gD k ≤ 17 := by
  have q : (List.range 201).all (fun k => decide (gD k ≤ 17)) = true := by decide +kernel
  exact of_decide_eq_true (List.all_eq_true.mp q k (List.mem_range.mpr (by omega)))
theorem putC_kt {t : Kt} {n : Nat} {k : Ki} {P : Ct → Prop} (h : t.length ≤ 50) (q : P (.dic (ktD (putT t n k)))) : putC k.d P (.dic (ktD t)) (.int (n : Int)) := by
  unfold putC
  refine onO_of (o := keyD (.int (n : Int))) rfl ⟨?_, ?_⟩
  · unfold ktD
    rw [List.length_map]
    exact small_lt (by omega)
  · rw [putT_d]
    exact q
theorem okS_app2 {a b : Str} (ha : okS a) (hb : okS b) : okS (a ++ b) := fun c hc => by
  rw [app_toList] at hc
  exact (List.mem_append.mp hc).elim (ha c) (hb c)
theorem okS_of2 (s : String) : okS (Str.ofString s) := by
  intro c hc
  rw [Str.ofString_eq_toList] at hc
  have hc : c ∈ s.toList.map Char.toNat := by simpa using hc
  obtain ⟨k, _, rfl⟩ := List.mem_map.mp hc
  have h := k.valid
  show k.toNat < 0x110000
  rcases h with h | h
  · exact Nat.lt_trans h (by decide)
  · exact h.2
theorem okS_join : ∀ ts : List Str, (∀ t ∈ ts, okS t) → okS (Str.join ", " ts)
  | [], _ => fun c hc => (nomatch (show c ∈ ([] : List Nat) from hc))
  | [a], h => h a List.mem_cons_self
  | a :: b :: r, h => okS_app2 (okS_app2 (h a List.mem_cons_self) (okS_k (by decide +kernel))) (okS_join (b :: r) fun t ht => h t (List.mem_cons_of_mem _ ht))
theorem okS_tt {ts : List Str} (h : ∀ t ∈ ts, okS t) : okS (tupleText ts) := by
  unfold tupleText
  refine okS_app2 (okS_app2 (okS_k (by decide +kernel)) (okS_join ts h)) ?_
  split
  · exact okS_of2 _
  · exact okS_of2 _
theorem okS_shown : ∀ x : Ki, okS (py x.d).shown := by
  have rl : okS (reprText "num") ∧ okS (reprText "truth") ∧ okS (reprText "any") ∧ okS (reprText "list") ∧ okS (reprText "pair") ∧ okS (reprText "fun") := ⟨okS_k (by decide +kernel), okS_k (by decide +kernel), okS_k (by decide +kernel), okS_k (by decide +kernel), okS_k (by decide +kernel), okS_k (by decide +kernel)⟩
  obtain ⟨r1, r2, r3, r4, r5, r6⟩ := rl
  intro x
  induction x with
  | num =>
    rw [show (py Ki.num.d).shown = tupleText [reprText "num"] by simp only [Ki.d, py_tup, pyL_cons, pyL_nil, py_str, PyData.shown, PyData.shownAll]]
    exact okS_tt (by simp only [List.forall_mem_cons]; exact ⟨r1, fun _ h => nomatch h⟩)
  | tru =>
    rw [show (py Ki.tru.d).shown = tupleText [reprText "truth"] by simp only [Ki.d, py_tup, pyL_cons, pyL_nil, py_str, PyData.shown, PyData.shownAll]]
    exact okS_tt (by simp only [List.forall_mem_cons]; exact ⟨r2, fun _ h => nomatch h⟩)
  | any i =>
    rw [show (py (Ki.any i).d).shown = tupleText [reprText "any", toString (i : Int)] by simp only [Ki.d, py_tup, pyL_cons, pyL_nil, py_str, py_int, PyData.shown, PyData.shownAll]]
    exact okS_tt (by simp only [List.forall_mem_cons]; exact ⟨r3, okS_of2 _, fun _ h => nomatch h⟩)
  | lst a ia =>
    rw [show (py (Ki.lst a).d).shown = tupleText [reprText "list", (py a.d).shown] by simp only [Ki.d, py_tup, pyL_cons, pyL_nil, py_str, PyData.shown, PyData.shownAll]]
    exact okS_tt (by simp only [List.forall_mem_cons]; exact ⟨r4, ia, fun _ h => nomatch h⟩)
  | pair a b ia ib =>
    rw [show (py (Ki.pair a b).d).shown = tupleText [reprText "pair", (py a.d).shown, (py b.d).shown] by simp only [Ki.d, py_tup, pyL_cons, pyL_nil, py_str, PyData.shown, PyData.shownAll]]
    exact okS_tt (by simp only [List.forall_mem_cons]; exact ⟨r5, ia, ib, fun _ h => nomatch h⟩)
  | fn a b ia ib =>
    rw [show (py (Ki.fn a b).d).shown = tupleText [reprText "fun", (py a.d).shown, (py b.d).shown] by simp only [Ki.d, py_tup, pyL_cons, pyL_nil, py_str, PyData.shown, PyData.shownAll]]
    exact okS_tt (by simp only [List.forall_mem_cons]; exact ⟨r6, ia, ib, fun _ h => nomatch h⟩)
theorem ki_vw (x : Ki) (S : Sto) : vw S (.dat x.d) = .dat x.d := vw_ne fun a h => by rw [Ki.d_eq] at h; cases h
theorem len_law : ∀ ds S xc R, sp_law ds S xc R → ds.length = 1 := by
  rintro ds S xc R ⟨ns, rfl, _⟩
  rfl
theorem pure_law : ∀ ds S xc R, sp_law ds S xc R → d_law XM0 { nx := fun _ S => R (.dat .non) S, rt := R } (args N_law ds) S := by
  rintro ds S xc R ⟨ns, rfl, hns, q⟩
  show d_law XM0 _ [some (.dat (.scr ns)), none, none, none, none, none, none, none] S
  unfold d_law
  refine mseq_k fun K hK => ?_; walk_at "ml"
  generalize hm : (if (if 12 < (ns.length : Int) then (12 : Int) else ns.length) > 1 then (if 12 < (ns.length : Int) then (12 : Int) else ns.length) else 1) = m
  have m1 : 1 ≤ m ∧ m ≤ 12 := by
    subst hm
    split <;> split at * <;> omega
  refine ⟨⟨by omega, by omega⟩, ?_⟩
  refine ⟨fun i r S' => ∃ x1 x2 x3 x4 x5 x6 x7, r = [some (.dat (.scr ns)), x1, x2, x3, x4, x5, x6, x7], ⟨none, none, none, none, none, none, none, rfl⟩, fun _ _ _ _ => trivial, ?_, ?_⟩
  · rintro i x r S' hx ⟨x1, x2, x3, x4, x5, x6, x7, rfl⟩
    obtain ⟨rfl, hi⟩ := rng_get hx
    refine gN_mk ?_
    refine mseq_k fun K hK => ?_; walk_at "ml"
    refine ⟨ns, _, rfl, by omega, by omega, ?_⟩
    subst hK
    refine mseq_k fun K hK => ?_; walk_at "ml"
    have rest : ∀ x : Ki, x.deep ≤ 40 → x.size ≤ 200 → x.lets → K [some (.dat (.scr ns)), some (.dat (.int (0 + i))), some (.dat .draw), some (.dat x.d), x4, x5, x6, x7] S' := by
      intro x xd xs xl
      subst hK
      refine mseq_k fun K hK => ?_; walk_at "ml"
      intro p hp
      subst hK
      refine mseq_k fun K hK => ?_; walk_at "ml"
      have next : ∀ (t : Kt) (S2 : Sto) (v5 : Option Val), KtOk t → t.length ≤ 6 → S2 p = some (.ct (.dic (ktD t))) → K [some (.dat (.scr ns)), some (.dat (.int (0 + i))), some (.dat .draw), some (.dat x.d), some (.dat (.obj p)), v5, x6, x7] S2 := by
        intro t S2 v5 kt tl hS
        subst hK
        refine mseq_k fun K hK => ?_; walk_at "ml"
        refine ⟨9, rfl, by decide, by decide, fun a a0 a1 => ?_⟩
        refine ⟨⟨rfl, rfl⟩, ?_⟩
        have next2 : ∀ (t : Kt) (S2 : Sto), KtOk t → S2 p = some (.ct (.dic (ktD t))) → K [some (.dat (.scr ns)), some (.dat (.int (0 + i))), some (.dat .draw), some (.dat x.d), some (.dat (.obj p)), v5, x6, x7] S2 := by
          intro t S2 kt hS
          subst hK
          refine mseq_k fun K hK => ?_; walk_at "ml"
          refine ⟨trivial, x, p, t, rfl, by omega, hS, ?_⟩
          have pk := putKi_deep kt x
          have rp := rpr_ki (x := putKi t x) (pk.2.2 xl) (by omega) (by omega)
          have ds := kt_same kt
          have xe := x.eo
          subst hK
          refine mseq_k fun K hK => ?_; walk_at "ml"
          rw [vw_at hS]
          walk_at "ml"
          intro r hr
          have hp2 : p ≠ r := fun z => by rw [z, hr] at hS; cases hS
          have hS2 : up S2 r (.ct (.dic (ktD t))) p = some (.ct (.dic (ktD t))) := by rw [up_ne hp2]; exact hS
          subst hK
          refine mseq_k fun K hK => ?_; walk_at "ml"
          have os := okS_shown (putKi t x)
          refine ⟨trivial, x, p, t, rfl, by omega, hS2, ?_⟩
          dsimp only
          rw [ki_vw]
          refine ⟨rp, rp, ⟨eqOk_str os, eqOk_str os⟩, ?_⟩
          rw [eqd_str, show decide ((py (Val.dat (putKi t x).d).d).shown = (py (putKi t x).d).shown) = true from decide_eq_true rfl]
          refine ifB_F rfl ?_
          rw [vw_at hS2, vw_at up_same]
          walk_at "ml"
          refine ⟨⟨rfl, ds⟩, fun z hz => ?_⟩
          refine ⟨x, z, [], rfl, by omega, up_same, ?_⟩
          dsimp only
          rw [putKi_nil, ki_vw]
          refine ⟨⟨xe.ok (by omega), xe.ok (by omega)⟩, ?_⟩
          rw [show eqd (Val.dat x.d).d (Val.dat x.d).d = true from xe.refl]
          refine ifB_F rfl ?_
          have hp3 : p ≠ z := fun e => by rw [e, hz] at hS2; cases hS2
          have hr3 : r ≠ z := fun e => by
            have := up_same (S := S2) (a := r) (c := .ct (.dic (ktD t)))
            rw [e] at this hz
            rw [hz] at this
            cases this
          have hS3 : up (up S2 r (.ct (.dic (ktD t)))) z (.ct (.dic [])) p = some (.ct (.dic (ktD t))) := by rw [up_ne hp3]; exact hS2
          have hR3 : up (up S2 r (.ct (.dic (ktD t)))) z (.ct (.dic [])) r = some (.ct (.dic (ktD t))) := by rw [up_ne hr3, up_same]
          generalize up (up S2 r (.ct (.dic (ktD t)))) z (.ct (.dic [])) = S4 at hS3 hR3 ⊢
          subst hK
          refine mseq_k fun K hK => ?_; walk_at "ml"
          refine clrC_at hS3 ?_
          subst hK
          walk_at "ml"
          refine ⟨trivial, x, r, t, rfl, by omega, by rw [up_ne (fun e => hp2 e.symm)]; exact hR3, ?_⟩
          dsimp only
          rw [ki_vw]
          refine ⟨rp, rp, ⟨eqOk_str os, eqOk_str os⟩, ?_⟩
          rw [eqd_str, show decide ((py (Val.dat (putKi t x).d).d).shown = (py (putKi t x).d).shown) = true from decide_eq_true rfl]
          exact ifB_F rfl ⟨_, _, _, _, _, _, _, rfl⟩
        refine ifB_of (fun _ => ?_) (fun _ => next2 t S2 kt hS)
        have gm : gD 60 = 11 := by decide +kernel
        refine ⟨60, rfl, by decide, by decide, by omega, fun y ys yd yl => cellC_at hS ?_⟩
        exact putC_kt (n := 1) (by omega) (next2 _ _ (putT_ok kt 1 (by omega) ⟨by omega, by omega, yl⟩).1 up_same)
      have p20 : CPow 10 20 := ⟨by decide, by decide, by decide⟩
      have nat : ∀ d ∈ [D.int 0, .int 1, .int 2, .int 7, .int (10 ^ Int.toNat 20)], ∃ n : Nat, d = .int (n : Int) := fun d hd => by
        simp only [List.mem_cons, List.not_mem_nil, or_false] at hd
        rcases hd with rfl | rfl | rfl | rfl | rfl
        · exact ⟨0, rfl⟩
        · exact ⟨1, rfl⟩
        · exact ⟨2, rfl⟩
        · exact ⟨7, rfl⟩
        · exact ⟨10 ^ 20, rfl⟩
      refine ⟨p20, sz rfl, fun j r S2 => ∃ (t : Kt) (v5 : Option Val), r = [some (.dat (.scr ns)), some (.dat (.int (0 + i))), some (.dat .draw), some (.dat x.d), some (.dat (.obj p)), v5, x6, x7] ∧ KtOk t ∧ t.length ≤ j ∧ j ≤ 5 ∧ S2 p = some (.ct (.dic (ktD t))), ⟨[], x5, rfl, ⟨List.nodup_nil, Nat.zero_le _, fun _ h => (nomatch h)⟩, Nat.zero_le _, Nat.zero_le _, up_same⟩, fun _ _ _ _ => trivial, ?_, ?_⟩
      · rintro j d r S2 hd ⟨t, v5, rfl, kt, tl, hj, hS⟩
        obtain ⟨n, rfl⟩ := nat d (List.mem_of_getElem? hd)
        have hj5 : j < 5 := (List.getElem?_eq_some_iff.mp hd).1
        refine gN_mk ?_
        walk_at "ml"
        refine ⟨2, rfl, by decide, by decide, fun a a0 a1 => ?_⟩
        refine ⟨⟨rfl, rfl⟩, ?_⟩
        refine ifB_of (fun _ => ?_) (fun _ => ⟨t, _, rfl, kt, by omega, by omega, hS⟩)
        refine ⟨2, rfl, by decide, by decide, fun y yd yl => cellC_at hS ?_⟩
        have h1 := ki_size y
        have h2 : 2 ^ y.deep ≤ 2 ^ 3 := Nat.pow_le_pow_right (by decide) (by omega)
        have pt := putT_ok kt n (k := y) (by omega) ⟨by omega, by omega, yl⟩
        exact putC_kt (by omega) ⟨_, _, rfl, pt.1, by omega, by omega, up_same⟩
      · rintro r S2 ⟨t, v5, rfl, kt, tl, hj, hS⟩
        exact next t S2 v5 kt (by have : t.length ≤ 5 := tl; omega) hS
    refine ⟨8, rfl, by decide, by decide, fun a a0 a1 => ?_⟩
    refine ⟨⟨rfl, rfl⟩, ?_⟩
    refine ifB_of (fun _ => ?_) (fun _ => ?_)
    · refine ⟨21, rfl, by decide, by decide, fun b b0 b1 => ?_⟩
      walk_at "dl"
      have gm := gD_most (k := 180 + b.toNat) (by omega)
      refine ⟨180 + b.toNat, by rw [show ((180 + b.toNat : Nat) : Int) = 180 + b by omega], by omega, by omega, by omega, fun x xs xd xl => rest x (by omega) (by omega) xl⟩
    · refine ⟨3, rfl, by decide, by decide, fun x xd xl => rest x (by omega) ?_ xl⟩
      have h1 := ki_size x
      have h2 : 2 ^ x.deep ≤ 2 ^ 4 := Nat.pow_le_pow_right (by decide) (by omega)
      omega
  · rintro r S' ⟨x1, x2, x3, x4, x5, x6, x7, rfl⟩
    dsimp only
    subst hK
    walk_at "ml"
    exact q S'
theorem law_pre {ns : List Int} (h : ns.length ≤ 63) : sp_law [.scr ns] (fun _ => none) (fun _ _ => False) (fun v _ => v = .dat (.bl true)) := ⟨ns, rfl, h, fun _ => rfl⟩
/-! ### the text -/
def topS (i : Nat) : Stmt := PySem.Challenge.pw_gaprun_k18_letters_put.main.body.getD i (.Pass ⟨0, 0, 0, 0⟩)
abbrev s_put_letters : Stmt := topS 1
theorem sc_put_letters : FnScope N_put_letters ["kind", "table"] (defScope s_put_letters) := ⟨rfl, rfl, rfl, by decide +kernel, rfl, by decide +kernel, by decide +kernel⟩
abbrev s_w_cell_at : Stmt := topS 3
theorem sc_w_cell_at : FnScope N_w_cell_at ["_law_script", "_law_k"] (defScope s_w_cell_at) := ⟨rfl, rfl, rfl, by decide +kernel, rfl, by decide +kernel, by decide +kernel⟩
abbrev s_w_draw : Stmt := topS 4
theorem sc_w_draw : FnScope N_w_draw ["_law_script", "_law_k"] (defScope s_w_draw) := ⟨rfl, rfl, rfl, by decide +kernel, rfl, by decide +kernel, by decide +kernel⟩
abbrev s_w_next : Stmt := topS 5
theorem sc_w_next : FnScope N_w_next ["_law_draw_here", "_law_many"] (defScope s_w_next) := ⟨rfl, rfl, rfl, by decide +kernel, rfl, by decide +kernel, by decide +kernel⟩
abbrev s_w_pick : Stmt := topS 6
theorem sc_w_pick : FnScope N_w_pick ["_law_draw_here", "_law_some"] (defScope s_w_pick) := ⟨rfl, rfl, rfl, by decide +kernel, rfl, by decide +kernel, by decide +kernel⟩
abbrev s_w_letter_kind : Stmt := topS 7
theorem sc_w_letter_kind : FnScope N_w_letter_kind ["_law_draw_here", "_law_deep"] (defScope s_w_letter_kind) := ⟨rfl, rfl, rfl, by decide +kernel, rfl, by decide +kernel, by decide +kernel⟩
abbrev s_w_sized : Stmt := topS 8
theorem sc_w_sized : FnScope N_w_sized ["_law_draw_here", "_law_many"] (defScope s_w_sized) := ⟨rfl, rfl, rfl, by decide +kernel, rfl, by decide +kernel, by decide +kernel⟩
abbrev s_w_put : Stmt := topS 9
theorem sc_w_put : FnScope N_w_put ["_law_kind", "_law_table"] (defScope s_w_put) := ⟨rfl, rfl, rfl, by decide +kernel, rfl, by decide +kernel, by decide +kernel⟩
abbrev s_law : Stmt := topS 10
theorem sc_law : FnScope N_law ["_law_script"] (defScope s_law) := ⟨rfl, rfl, rfl, by decide +kernel, rfl, by decide +kernel, by decide +kernel⟩
theorem bt_abs : bootBuiltins "abs" = some (.builtin "abs") := by decide +kernel
theorem bt_dict : bootBuiltins "dict" = some (.type "dict") := by decide +kernel
theorem bt_len : bootBuiltins "len" = some (.builtin "len") := by decide +kernel
theorem bt_max : bootBuiltins "max" = some (.builtin "max") := by decide +kernel
theorem bt_min : bootBuiltins "min" = some (.builtin "min") := by decide +kernel
theorem bt_repr : bootBuiltins "repr" = some (.builtin "repr") := by decide +kernel
theorem bt_tuple : bootBuiltins "tuple" = some (.type "tuple") := by decide +kernel
structure Txt (w : World) (K : PySem.W.Frag) (mg : Str → Option Value) where
  f_put_letters : Addr
  fd_put_letters : FuncData
  F_put_letters : Fun K "put_letters" "put_letters" s_put_letters f_put_letters fd_put_letters
  g_put_letters : mg "put_letters" = some (.ref f_put_letters)
  b_put_letters : Binds K fd_put_letters ["kind", "table"] []
  f_w_cell_at : Addr
  fd_w_cell_at : FuncData
  F_w_cell_at : Fun K "_law_cell_at" "_law_cell_at" s_w_cell_at f_w_cell_at fd_w_cell_at
  g_w_cell_at : mg "_law_cell_at" = some (.ref f_w_cell_at)
  b_w_cell_at : Binds K fd_w_cell_at ["_law_script", "_law_k"] []
  f_w_draw : Addr
  fd_w_draw : FuncData
  F_w_draw : Fun K "_law_draw" "_law_draw" s_w_draw f_w_draw fd_w_draw
  g_w_draw : mg "_law_draw" = some (.ref f_w_draw)
  b_w_draw : Binds K fd_w_draw ["_law_script", "_law_k"] []
  f_w_next : Addr
  fd_w_next : FuncData
  F_w_next : Fun K "_law_next" "_law_next" s_w_next f_w_next fd_w_next
  g_w_next : mg "_law_next" = some (.ref f_w_next)
  b_w_next : Binds K fd_w_next ["_law_draw_here", "_law_many"] []
  f_w_pick : Addr
  fd_w_pick : FuncData
  F_w_pick : Fun K "_law_pick" "_law_pick" s_w_pick f_w_pick fd_w_pick
  g_w_pick : mg "_law_pick" = some (.ref f_w_pick)
  b_w_pick : Binds K fd_w_pick ["_law_draw_here", "_law_some"] []
  f_w_letter_kind : Addr
  fd_w_letter_kind : FuncData
  F_w_letter_kind : Fun K "_law_letter_kind" "_law_letter_kind" s_w_letter_kind f_w_letter_kind fd_w_letter_kind
  g_w_letter_kind : mg "_law_letter_kind" = some (.ref f_w_letter_kind)
  b_w_letter_kind : Binds K fd_w_letter_kind ["_law_draw_here", "_law_deep"] []
  f_w_sized : Addr
  fd_w_sized : FuncData
  F_w_sized : Fun K "_law_sized" "_law_sized" s_w_sized f_w_sized fd_w_sized
  g_w_sized : mg "_law_sized" = some (.ref f_w_sized)
  b_w_sized : Binds K fd_w_sized ["_law_draw_here", "_law_many"] []
  f_w_put : Addr
  fd_w_put : FuncData
  F_w_put : Fun K "_law_put" "_law_put" s_w_put f_w_put fd_w_put
  g_w_put : mg "_law_put" = some (.ref f_w_put)
  b_w_put : Binds K fd_w_put ["_law_kind", "_law_table"] []
  f_law : Addr
  fd_law : FuncData
  F_law : Fun K "law" "law" s_law f_law fd_law
  g_law : mg "law" = some (.ref f_law)
  b_law : Binds K fd_law ["_law_script"] []
  z_abs : mg "abs" = none
  z_dict : mg "dict" = none
  z_len : mg "len" = none
  z_max : mg "max" = none
  z_min : mg "min" = none
  z_range : mg "range" = none
  z_repr : mg "repr" = none
  z_tuple : mg "tuple" = none
section
variable {P : Program} {w : World} {K : PySem.W.Frag} {mg : Str → Option Value} {base : Heap}
theorem ok_put_letters (T : Txt w K mg) : ∀ n : Nat, FnOk P w K mg base CX0 (n + 0) T.f_put_letters T.fd_put_letters ["kind", "table"] (spM K [] (sp_put_letters n))
  | 0 => fn_noM no_put_letters
  | n + 1 => by
    have ih := ok_put_letters T n
    have h : FnOk P w K mg base CX0 ((n + 0) + 1) T.f_put_letters T.fd_put_letters ["kind", "table"] (spM K [] (sp_put_letters (n + 1))) := fn_m T.F_put_letters sc_put_letters (len_put_letters (n + 1)) (fun cdv A outer s H hr => (mqss_cons (mqs_if (m_upT (qt_eq (q_sub1 (q_var 0) q_int) q_str hr.units))
  (mqss_one (mqs_ret (mq_dget2 (Nat.lt_of_le_of_lt (Nat.add_le_add_left (show 1 ≤ 64 by decide) _) hr.units) (m_var 1) (m_up (q_sub1 (q_var 0) q_int)) (m_varM 0) m2_of)))
  mqss_nil)
  (mqss_one (mqs_ret (mq_op op_addU rel_add (m_up (q_slice (q_var 0) qo_none (qo_some q_int))) (mq_t1 rel_tuple call_tuple_of (by rfl) T.z_tuple bt_tuple (mq_lc (own := [("part", 2)]) rfl sc_put_letters.nd (mi_up (qi_any (q_slice (q_var 0) (qo_some q_int) qo_none))) (blkOk_by (own := [("part", 2)]) (N := N_put_letters) (sc := defScope s_put_letters) (by decide +kernel)) (fun _ _ _ _ _ => (qg_name (i := 2) (vs := [2]) (by decide) sc_put_letters.nd rfl (by first | exact Or.inl rfl | exact Or.inr rfl))) (fun _ _ _ _ _ => mqts_nil) (fun _ _ _ _ _ => (mq_call ih (hr.mono (by omega)) (by rfl) T.g_put_letters T.F_put_letters.kp T.b_put_letters (mqa_cons (m_up (q_varM 2)) (mqa_cons (m_varM 1) mqa_nil))))))))))) (pure_put_letters n)
    rw [Nat.add_right_comm]
    exact h
theorem ok_w_cell_at (T : Txt w K mg) : FnOk P w K mg base CX0 1 T.f_w_cell_at T.fd_w_cell_at ["_law_script", "_law_k"] (spD K sp_w_cell_at) :=
  fn_d T.F_w_cell_at sc_w_cell_at len_w_cell_at (fun cdv A outer s H hr => (qss_cons (qs_if (qt_lt (q_var 1) (q_b1 rel_len call_len (by rfl) T.z_len bt_len (q_var 0)))
  (qss_one (qs_ret (q_sub1 (q_var 0) (q_var 1))))
  qss_nil)
  (qss_one (qs_ret q_int)))) pure_w_cell_at
theorem ok_w_draw (T : Txt w K mg) : FnOk P w K mg base CX0 2 T.f_w_draw T.fd_w_draw ["_law_script", "_law_k"] (spD K sp_w_draw) :=
  fn_d T.F_w_draw sc_w_draw len_w_draw (fun cdv A outer s H hr => (qss_cons (qs_set (i := 2) sc_w_draw.nd rfl (by first | exact Or.inl rfl | exact Or.inr rfl) (q_call (ok_w_cell_at T) (hr.mono (by decide)) (by rfl) T.g_w_cell_at T.F_w_cell_at.kp T.b_w_cell_at (qa_cons (q_varM 0) (qa_cons (q_varM 1) qa_nil))))
  (qss_cons (qs_set (i := 3) sc_w_draw.nd rfl (by first | exact Or.inl rfl | exact Or.inr rfl) (q_mod (q_mul (q_add (q_add (q_mod (q_b1 rel_abs call_abs (by rfl) T.z_abs bt_abs (q_var 2)) q_int) (q_mul q_int (q_var 1))) q_int) q_int) q_int))
  (qss_one (qs_ret (q_draw (q_disp (QPs.cons q_str (q_b2 rel_max (call_max2 rfl) (by rfl) T.z_max bt_max q_int (q_sub (q_var 2) (q_pow q_int q_int))) (QPs.cons q_str (q_mod (q_mul (q_var 3) (q_var 3)) q_int) (QPs.cons q_str (q_share (q_lst (qa_cons q_str (qa_cons q_str qa_nil)))) (QPs.cons q_str (q_share (q_lst qa_nil)) QPs.nil)))) (by rfl) (by rfl) (fun z => by cases z) (by decide)))))))) pure_w_draw
theorem ok_w_next (T : Txt w K mg) : FnOk P w K mg base CX0 1 T.f_w_next T.fd_w_next ["_law_draw_here", "_law_many"] (spD K sp_w_next) :=
  fn_d T.F_w_next sc_w_next len_w_next (fun cdv A outer s H hr => (qss_cons (qs_if (qt_gt (q_drawGet 0 (.inl rfl) (hu_of hr) (pv 0) (fun _ _ => rfl)) q_int)
  (qss_cons (qs_set (i := 2) sc_w_next.nd rfl (by first | exact Or.inl rfl | exact Or.inr rfl) (q_mod (q_drawGet 0 (.inl rfl) (hu_of hr) (pv 0) (fun _ _ => rfl)) (q_var 1)))
  (qss_cons (qs_drawPut 0 (.inl rfl) (hu_of hr) (pv 0) (q_div (q_drawGet 0 (.inl rfl) (hu_of hr) (pv 0) (fun _ _ => rfl)) (q_var 1)))
  (qss_one (qs_retV 2))))
  qss_nil)
  (qss_cons (qs_drawPut 0 (.inr rfl) (hu_of hr) (pv 0) (q_mod (q_add (q_mul (q_drawGet 0 (.inr rfl) (hu_of hr) (pv 0) (fun _ _ => rfl)) q_int) q_int) q_int))
  (qss_one (qs_ret (q_mod (q_div (q_mod (q_mul (q_drawGet 0 (.inr rfl) (hu_of hr) (pv 0) (fun _ _ => rfl)) (q_drawGet 0 (.inr rfl) (hu_of hr) (pv 0) (fun _ _ => rfl))) q_int) q_int) (q_var 1))))))) pure_w_next
theorem ok_w_pick (T : Txt w K mg) : FnOk P w K mg base CX0 2 T.f_w_pick T.fd_w_pick ["_law_draw_here", "_law_some"] (spD K sp_w_pick) :=
  fn_d T.F_w_pick sc_w_pick len_w_pick (fun cdv A outer s H hr => (qss_one (qs_ret (q_sub1 (q_var 1) (q_call (ok_w_next T) (hr.mono (by decide)) (by rfl) T.g_w_next T.F_w_next.kp T.b_w_next (qa_cons (q_varM 0) (qa_cons (q_b1 rel_len call_len (by rfl) T.z_len bt_len (q_var 1)) qa_nil))))))) pure_w_pick
theorem ok_w_letter_kind (T : Txt w K mg) : ∀ n : Nat, FnOk P w K mg base CX0 (n + 2) T.f_w_letter_kind T.fd_w_letter_kind ["_law_draw_here", "_law_deep"] (spD K (sp_w_letter_kind n))
  | 0 => fn_no no_w_letter_kind
  | n + 1 => by
    have ih := ok_w_letter_kind T n
    have h : FnOk P w K mg base CX0 ((n + 2) + 1) T.f_w_letter_kind T.fd_w_letter_kind ["_law_draw_here", "_law_deep"] (spD K (sp_w_letter_kind (n + 1))) := fn_d T.F_w_letter_kind sc_w_letter_kind (len_w_letter_kind (n + 1)) (fun cdv A outer s H hr => (qss_cons (qs_set (i := 2) sc_w_letter_kind.nd rfl (by first | exact Or.inl rfl | exact Or.inr rfl) (q_call (ok_w_next T) (hr.mono (by omega)) (by rfl) T.g_w_next T.F_w_next.kp T.b_w_next (qa_cons (q_varM 0) (qa_cons q_int qa_nil))))
  (qss_cons (qs_if (PW.pt (qw_or (qt_eq (q_var 1) q_int hr.units) (pw_or1 (qt_lt (q_var 2) q_int))))
  (qss_one (qs_ret (q_sub1 (q_lst (qa_cons (q_tup (qa_cons q_str qa_nil)) (qa_cons (q_tup (qa_cons q_str qa_nil)) (qa_cons (q_tup (qa_cons q_str (qa_cons (q_call (ok_w_next T) (hr.mono (by omega)) (by rfl) T.g_w_next T.F_w_next.kp T.b_w_next (qa_cons (q_varM 0) (qa_cons q_int qa_nil))) qa_nil))) (qa_cons (q_tup (qa_cons q_str (qa_cons (q_call (ok_w_pick T) (hr.mono (by omega)) (by rfl) T.g_w_pick T.F_w_pick.kp T.b_w_pick (qa_cons (q_varM 0) (qa_cons (q_share (q_lst (qa_cons q_int (qa_cons q_int (qa_cons (q_pow q_int q_int) qa_nil))))) qa_nil))) qa_nil))) qa_nil))))) (q_mod (q_var 2) q_int))))
  qss_nil)
  (qss_cons (qs_set (i := 3) sc_w_letter_kind.nd rfl (by first | exact Or.inl rfl | exact Or.inr rfl) (q_call ih (hr.mono (by omega)) (by rfl) T.g_w_letter_kind T.F_w_letter_kind.kp T.b_w_letter_kind (qa_cons (q_varM 0) (qa_cons (q_sub (q_var 1) q_int) qa_nil))))
  (qss_cons (qs_if (qt_lt (q_var 2) q_int)
  (qss_one (qs_ret (q_tup (qa_cons q_str (qa_cons (q_varM 3) qa_nil)))))
  qss_nil)
  (qss_one (qs_ret (q_tup (qa_cons (q_sub1 (q_lst (qa_cons q_str (qa_cons q_str qa_nil))) (q_mod (q_var 2) q_int)) (qa_cons (q_varM 3) (qa_cons (q_call ih (hr.mono (by omega)) (by rfl) T.g_w_letter_kind T.F_w_letter_kind.kp T.b_w_letter_kind (qa_cons (q_varM 0) (qa_cons (q_sub (q_var 1) q_int) qa_nil))) qa_nil))))))))))) (pure_w_letter_kind n)
    rw [Nat.add_right_comm]
    exact h
theorem ok_w_sized (T : Txt w K mg) : ∀ n : Nat, FnOk P w K mg base CX0 (n + 8) T.f_w_sized T.fd_w_sized ["_law_draw_here", "_law_many"] (spD K (sp_w_sized n))
  | 0 => fn_no no_w_sized
  | n + 1 => by
    have ih := ok_w_sized T n
    have h : FnOk P w K mg base CX0 ((n + 8) + 1) T.f_w_sized T.fd_w_sized ["_law_draw_here", "_law_many"] (spD K (sp_w_sized (n + 1))) := fn_d T.F_w_sized sc_w_sized (len_w_sized (n + 1)) (fun cdv A outer s H hr => (qss_cons (qs_if (qt_eq (q_var 1) q_int hr.units)
  (qss_one (qs_ret (q_call (ok_w_letter_kind T 5) (hr.mono (by omega)) (by rfl) T.g_w_letter_kind T.F_w_letter_kind.kp T.b_w_letter_kind (qa_cons (q_varM 0) (qa_cons q_int qa_nil)))))
  qss_nil)
  (qss_cons (qs_if (PW.pt (qw_or (qt_eq (q_var 1) q_int hr.units) (pw_or1 (PW.pt (qw_and (qt_eq (q_mod (q_var 1) q_int) q_int hr.units) (pw_and1 (qt_eq (q_call (ok_w_next T) (hr.mono (by omega)) (by rfl) T.g_w_next T.F_w_next.kp T.b_w_next (qa_cons (q_varM 0) (qa_cons q_int qa_nil))) q_int hr.units)))))))
  (qss_one (qs_ret (q_tup (qa_cons q_str (qa_cons (q_call ih (hr.mono (by omega)) (by rfl) T.g_w_sized T.F_w_sized.kp T.b_w_sized (qa_cons (q_varM 0) (qa_cons (q_sub (q_var 1) q_int) qa_nil))) qa_nil)))))
  qss_nil)
  (qss_cons (qs_set (i := 2) sc_w_sized.nd rfl (by first | exact Or.inl rfl | exact Or.inr rfl) (q_add q_int (q_div (q_mul (q_sub (q_var 1) q_int) (q_add q_int (q_call (ok_w_next T) (hr.mono (by omega)) (by rfl) T.g_w_next T.F_w_next.kp T.b_w_next (qa_cons (q_varM 0) (qa_cons q_int qa_nil))))) q_int)))
  (qss_cons (qs_set (i := 3) sc_w_sized.nd rfl (by first | exact Or.inl rfl | exact Or.inr rfl) (q_call (ok_w_pick T) (hr.mono (by omega)) (by rfl) T.g_w_pick T.F_w_pick.kp T.b_w_pick (qa_cons (q_varM 0) (qa_cons (q_share (q_lst (qa_cons q_str (qa_cons q_str qa_nil)))) qa_nil))))
  (qss_one (qs_ret (q_tup (qa_cons (q_varM 3) (qa_cons (q_call ih (hr.mono (by omega)) (by rfl) T.g_w_sized T.F_w_sized.kp T.b_w_sized (qa_cons (q_varM 0) (qa_cons (q_varM 2) qa_nil))) (qa_cons (q_call ih (hr.mono (by omega)) (by rfl) T.g_w_sized T.F_w_sized.kp T.b_w_sized (qa_cons (q_varM 0) (qa_cons (q_sub (q_sub (q_var 1) q_int) (q_var 2)) qa_nil))) qa_nil))))))))))) (pure_w_sized n)
    rw [Nat.add_right_comm]
    exact h
theorem ok_w_put (T : Txt w K mg) : ∀ n : Nat, FnOk P w K mg base CX0 (n + 0) T.f_w_put T.fd_w_put ["_law_kind", "_law_table"] (spM K [] (sp_w_put n))
  | 0 => fn_noM no_w_put
  | n + 1 => by
    have ih := ok_w_put T n
    have h : FnOk P w K mg base CX0 ((n + 0) + 1) T.f_w_put T.fd_w_put ["_law_kind", "_law_table"] (spM K [] (sp_w_put (n + 1))) := fn_m T.F_w_put sc_w_put (len_w_put (n + 1)) (fun cdv A outer s H hr => (mqss_cons (mqs_if (m_upT (qt_eq (q_sub1 (q_var 0) q_int) q_str hr.units))
  (mqss_one (mqs_ret (mq_dget2 (Nat.lt_of_le_of_lt (Nat.add_le_add_left (show 1 ≤ 64 by decide) _) hr.units) (m_var 1) (m_up (q_sub1 (q_var 0) q_int)) (m_varM 0) m2_of)))
  mqss_nil)
  (mqss_one (mqs_ret (mq_op op_addU rel_add (m_up (q_slice (q_var 0) qo_none (qo_some q_int))) (mq_t1 rel_tuple call_tuple_of (by rfl) T.z_tuple bt_tuple (mq_lc (own := [("_law_part", 2)]) rfl sc_w_put.nd (mi_up (qi_any (q_slice (q_var 0) (qo_some q_int) qo_none))) (blkOk_by (own := [("_law_part", 2)]) (N := N_w_put) (sc := defScope s_w_put) (by decide +kernel)) (fun _ _ _ _ _ => (qg_name (i := 2) (vs := [2]) (by decide) sc_w_put.nd rfl (by first | exact Or.inl rfl | exact Or.inr rfl))) (fun _ _ _ _ _ => mqts_nil) (fun _ _ _ _ _ => (mq_call ih (hr.mono (by omega)) (by rfl) T.g_w_put T.F_w_put.kp T.b_w_put (mqa_cons (m_up (q_varM 2)) (mqa_cons (m_varM 1) mqa_nil))))))))))) (pure_w_put n)
    rw [Nat.add_right_comm]
    exact h
theorem ok_law (T : Txt w K mg) : Gl.FnG P w K mg base CX0 66 T.f_law T.fd_law ["_law_script"] (spM K [] sp_law) :=
  fn_mG T.F_law sc_law len_law (fun cdv A outer s H gd hr => (mqss_cons (mqs_for (vs := [1]) PassesOwn.never rfl (mi_up (qi_rng1 (by rfl) T.z_range (qa_cons (q_b2 rel_max (call_max2 rfl) (by rfl) T.z_max bt_max q_int (q_b2 rel_min (call_min2 rfl) (by rfl) T.z_min bt_min (q_b1 rel_len call_len (by rfl) T.z_len bt_len (q_var 0)) q_int)) qa_nil))) (qg_name (i := 1) (vs := [1]) (by decide) sc_law.nd rfl (by first | exact Or.inl rfl | exact Or.inr rfl))
  (mqss_cons (m_upS (qs_set (i := 2) sc_law.nd rfl (by first | exact Or.inl rfl | exact Or.inr rfl) (q_call (ok_w_draw T) (hr.mono (by decide)) (by rfl) T.g_w_draw T.F_w_draw.kp T.b_w_draw (qa_cons (q_varM 0) (qa_cons (q_varM 1) qa_nil)))))
  (mqss_cons (m_upS (qs_set (i := 3) sc_law.nd rfl (by first | exact Or.inl rfl | exact Or.inr rfl) (q_ifExp (qt_eq (q_call (ok_w_next T) (hr.mono (by decide)) (by rfl) T.g_w_next T.F_w_next.kp T.b_w_next (qa_cons (q_varM 2) (qa_cons q_int qa_nil))) q_int hr.units) (q_call (ok_w_sized T 18) (hr.mono (by decide)) (by rfl) T.g_w_sized T.F_w_sized.kp T.b_w_sized (qa_cons (q_varM 2) (qa_cons (q_add q_int (q_call (ok_w_next T) (hr.mono (by decide)) (by rfl) T.g_w_next T.F_w_next.kp T.b_w_next (qa_cons (q_varM 2) (qa_cons q_int qa_nil)))) qa_nil))) (q_call (ok_w_letter_kind T 5) (hr.mono (by decide)) (by rfl) T.g_w_letter_kind T.F_w_letter_kind.kp T.b_w_letter_kind (qa_cons (q_varM 2) (qa_cons q_int qa_nil))))))
  (mqss_cons (mqs_set (i := 4) sc_law.nd rfl (by first | exact Or.inl rfl | exact Or.inr rfl) (mq_put (m_up q_newD)))
  (mqss_cons (mqs_for (vs := [5]) PassesOwn.never rfl (mi_up (qi_any (q_lst (qa_cons q_int (qa_cons q_int (qa_cons q_int (qa_cons q_int (qa_cons (q_pow q_int q_int) qa_nil)))))))) (qg_name (i := 5) (vs := [5]) (by decide) sc_law.nd rfl (by first | exact Or.inl rfl | exact Or.inr rfl))
  (mqss_one (mqs_if (m_upT (qt_eq (q_call (ok_w_next T) (hr.mono (by decide)) (by rfl) T.g_w_next T.F_w_next.kp T.b_w_next (qa_cons (q_varM 2) (qa_cons q_int qa_nil))) q_int hr.units))
  (mqss_one (mqs_putC 4 (Nat.lt_of_le_of_lt (Nat.add_le_add_left (show 1 ≤ 64 by decide) _) hr.units) (pv 4) (m_var 5) (m_up (q_call (ok_w_letter_kind T 5) (hr.mono (by decide)) (by rfl) T.g_w_letter_kind T.F_w_letter_kind.kp T.b_w_letter_kind (qa_cons (q_varM 2) (qa_cons q_int qa_nil))))))
  mqss_nil)))
  (mqss_cons (mqs_if (m_upT (qt_eq (q_call (ok_w_next T) (hr.mono (by decide)) (by rfl) T.g_w_next T.F_w_next.kp T.b_w_next (qa_cons (q_varM 2) (qa_cons q_int qa_nil))) q_int hr.units))
  (mqss_one (mqs_putC 4 (Nat.lt_of_le_of_lt (Nat.add_le_add_left (show 1 ≤ 64 by decide) _) hr.units) (pv 4) (m_up q_int) (m_up (q_call (ok_w_sized T 18) (hr.mono (by decide)) (by rfl) T.g_w_sized T.F_w_sized.kp T.b_w_sized (qa_cons (q_varM 2) (qa_cons q_int qa_nil))))))
  mqss_nil)
  (mqss_cons (mqs_fz 4 (mqs_set (i := 6) sc_law.nd rfl (by first | exact Or.inl rfl | exact Or.inr rfl) (mq_call (ok_w_put T 64) (hr.mono (by decide)) (by rfl) T.g_w_put T.F_w_put.kp T.b_w_put (mqa_cons (m_up (q_varM 3)) (mqa_cons (m_varM 4) mqa_nil)))))
  (mqss_cons (mqs_set (i := 7) sc_law.nd rfl (by first | exact Or.inl rfl | exact Or.inr rfl) (mq_put (mq_t1 rel_dictC call_dictD (by rfl) T.z_dict bt_dict (m_var 4))))
  (mqss_cons (mqs_fz 4 (mqs_if (PW.pt (mqw_or (mqt_cmp (op_neD hr.units) rel_ne (mq_b1 rel_repr (Gl.cr_repr gd hr.units) (by rfl) T.z_repr bt_repr (mq_call (ok_put_letters T 64) (hr.mono (by decide)) (by rfl) T.g_put_letters T.F_put_letters.kp T.b_put_letters (mqa_cons (m_up (q_varM 3)) (mqa_cons (m_varM 4) mqa_nil)))) (m_up (q_b1 rel_repr (Gl.cr_repr gd hr.units) (by rfl) T.z_repr bt_repr (q_var 6))) (nomark _)) (mqw_or (mqt_cmp (op_neDS hr.units) rel_eqK (m_var 4) (m_var 7) (nomark _)) (pw_or1 (mqt_cmp (op_neD hr.units) rel_ne (mq_call (ok_put_letters T 64) (hr.mono (by decide)) (by rfl) T.g_put_letters T.F_put_letters.kp T.b_put_letters (mqa_cons (m_up (q_varM 3)) (mqa_cons (mq_put (m_up q_newD)) mqa_nil))) (m_var 3) (nomark _))))))
  (mqss_one (m_upS (qs_ret q_bl)))
  mqss_nil))
  (mqss_cons (mqs_expr (mq_clear (pe_bm0 PySem.F.plainAttrs_dict PySem.F.slot_dict_clear PySem.F.type_dict_clear mtd_clear (m_var 4))))
  (mqss_one (mqs_fz 7 (mqs_if (mqt_cmp (op_neD hr.units) rel_ne (mq_b1 rel_repr (Gl.cr_repr gd hr.units) (by rfl) T.z_repr bt_repr (mq_call (ok_put_letters T 64) (hr.mono (by decide)) (by rfl) T.g_put_letters T.F_put_letters.kp T.b_put_letters (mqa_cons (m_up (q_varM 3)) (mqa_cons (m_varM 7) mqa_nil)))) (m_up (q_b1 rel_repr (Gl.cr_repr gd hr.units) (by rfl) T.z_repr bt_repr (q_var 6))) (nomark _))
  (mqss_one (m_upS (qs_ret q_bl)))
  mqss_nil)))))))))))))
  (mqss_one (m_upS (qs_ret q_bl))))) pure_law
end
theorem all_mk {l : PySem.W.OpenLaw} {w : World} {K : PySem.W.Frag} {h : Heap} {mg : Str → Option Value} {fa : Addr} (X : K.In h) (G : h.Ns mainGlobals mg) (hfa : mg "law" = some (.ref fa))
    {f0 : Addr} {od0 an0 : Option Addr} {sl0 : Array (Option Value)} {oc0 kV0 dc0 pm0 cd0 ct0 : Value}
    {f1 : Addr} {od1 an1 : Option Addr} {sl1 : Array (Option Value)} {oc1 kV1 dc1 pm1 cd1 ct1 : Value}
    {f2 : Addr} {od2 an2 : Option Addr} {sl2 : Array (Option Value)} {oc2 kV2 dc2 pm2 cd2 ct2 : Value}
    {f3 : Addr} {od3 an3 : Option Addr} {sl3 : Array (Option Value)} {oc3 kV3 dc3 pm3 cd3 ct3 : Value}
    {f4 : Addr} {od4 an4 : Option Addr} {sl4 : Array (Option Value)} {oc4 kV4 dc4 pm4 cd4 ct4 : Value}
    {f5 : Addr} {od5 an5 : Option Addr} {sl5 : Array (Option Value)} {oc5 kV5 dc5 pm5 cd5 ct5 : Value}
    {f6 : Addr} {od6 an6 : Option Addr} {sl6 : Array (Option Value)} {oc6 kV6 dc6 pm6 cd6 ct6 : Value}
    {f7 : Addr} {od7 an7 : Option Addr} {sl7 : Array (Option Value)} {oc7 kV7 dc7 pm7 cd7 ct7 : Value}
    {f8 : Addr} {od8 an8 : Option Addr} {sl8 : Array (Option Value)} {oc8 kV8 dc8 pm8 cd8 ct8 : Value}
    (a0 : PySem.W.nsIn K mainGlobals "put_letters" = some (some (.ref f0))) (l0 : K.lookup f0 = some ⟨oc0, od0, .func (PySem.W.fnOf "put_letters" "put_letters" (defArgs s_put_letters) (defBody s_put_letters) (defScope s_put_letters) .none kV0 dc0 pm0 an0 cd0 ct0), sl0⟩) (c0 : PySem.W.codeIn K cd0 "put_letters" = true) (k0 : PySem.W.keepIn K (.ref f0) = true)
    (a1 : PySem.W.nsIn K mainGlobals "_law_cell_at" = some (some (.ref f1))) (l1 : K.lookup f1 = some ⟨oc1, od1, .func (PySem.W.fnOf "_law_cell_at" "_law_cell_at" (defArgs s_w_cell_at) (defBody s_w_cell_at) (defScope s_w_cell_at) .none kV1 dc1 pm1 an1 cd1 ct1), sl1⟩) (c1 : PySem.W.codeIn K cd1 "_law_cell_at" = true) (k1 : PySem.W.keepIn K (.ref f1) = true)
    (a2 : PySem.W.nsIn K mainGlobals "_law_draw" = some (some (.ref f2))) (l2 : K.lookup f2 = some ⟨oc2, od2, .func (PySem.W.fnOf "_law_draw" "_law_draw" (defArgs s_w_draw) (defBody s_w_draw) (defScope s_w_draw) .none kV2 dc2 pm2 an2 cd2 ct2), sl2⟩) (c2 : PySem.W.codeIn K cd2 "_law_draw" = true) (k2 : PySem.W.keepIn K (.ref f2) = true)
    (a3 : PySem.W.nsIn K mainGlobals "_law_next" = some (some (.ref f3))) (l3 : K.lookup f3 = some ⟨oc3, od3, .func (PySem.W.fnOf "_law_next" "_law_next" (defArgs s_w_next) (defBody s_w_next) (defScope s_w_next) .none kV3 dc3 pm3 an3 cd3 ct3), sl3⟩) (c3 : PySem.W.codeIn K cd3 "_law_next" = true) (k3 : PySem.W.keepIn K (.ref f3) = true)
    (a4 : PySem.W.nsIn K mainGlobals "_law_pick" = some (some (.ref f4))) (l4 : K.lookup f4 = some ⟨oc4, od4, .func (PySem.W.fnOf "_law_pick" "_law_pick" (defArgs s_w_pick) (defBody s_w_pick) (defScope s_w_pick) .none kV4 dc4 pm4 an4 cd4 ct4), sl4⟩) (c4 : PySem.W.codeIn K cd4 "_law_pick" = true) (k4 : PySem.W.keepIn K (.ref f4) = true)
    (a5 : PySem.W.nsIn K mainGlobals "_law_letter_kind" = some (some (.ref f5))) (l5 : K.lookup f5 = some ⟨oc5, od5, .func (PySem.W.fnOf "_law_letter_kind" "_law_letter_kind" (defArgs s_w_letter_kind) (defBody s_w_letter_kind) (defScope s_w_letter_kind) .none kV5 dc5 pm5 an5 cd5 ct5), sl5⟩) (c5 : PySem.W.codeIn K cd5 "_law_letter_kind" = true) (k5 : PySem.W.keepIn K (.ref f5) = true)
    (a6 : PySem.W.nsIn K mainGlobals "_law_sized" = some (some (.ref f6))) (l6 : K.lookup f6 = some ⟨oc6, od6, .func (PySem.W.fnOf "_law_sized" "_law_sized" (defArgs s_w_sized) (defBody s_w_sized) (defScope s_w_sized) .none kV6 dc6 pm6 an6 cd6 ct6), sl6⟩) (c6 : PySem.W.codeIn K cd6 "_law_sized" = true) (k6 : PySem.W.keepIn K (.ref f6) = true)
    (a7 : PySem.W.nsIn K mainGlobals "_law_put" = some (some (.ref f7))) (l7 : K.lookup f7 = some ⟨oc7, od7, .func (PySem.W.fnOf "_law_put" "_law_put" (defArgs s_w_put) (defBody s_w_put) (defScope s_w_put) .none kV7 dc7 pm7 an7 cd7 ct7), sl7⟩) (c7 : PySem.W.codeIn K cd7 "_law_put" = true) (k7 : PySem.W.keepIn K (.ref f7) = true)
    (a8 : PySem.W.nsIn K mainGlobals "law" = some (some (.ref f8))) (l8 : K.lookup f8 = some ⟨oc8, od8, .func (PySem.W.fnOf "law" "law" (defArgs s_law) (defBody s_law) (defScope s_law) .none kV8 dc8 pm8 an8 cd8 ct8), sl8⟩) (c8 : PySem.W.codeIn K cd8 "law" = true) (k8 : PySem.W.keepIn K (.ref f8) = true)
    (z_abs : PySem.W.nsIn K mainGlobals "abs" = some none)
    (z_dict : PySem.W.nsIn K mainGlobals "dict" = some none)
    (z_len : PySem.W.nsIn K mainGlobals "len" = some none)
    (z_max : PySem.W.nsIn K mainGlobals "max" = some none)
    (z_min : PySem.W.nsIn K mainGlobals "min" = some none)
    (z_range : PySem.W.nsIn K mainGlobals "range" = some none)
    (z_repr : PySem.W.nsIn K mainGlobals "repr" = some none)
    (z_tuple : PySem.W.nsIn K mainGlobals "tuple" = some none) :
    ∃ fd : FuncData, (∀ (s : Shared) (v : Value), BindsTo s fd ⟨[v], []⟩ [("_law_script", v)]) ∧ ∀ base : Heap, K.In base → base.Ns mainGlobals mg → Gl.FnG l.prog w K mg base CX0 66 fa fd ["_law_script"] (spM K [] sp_law) := by
  have e := hfa.symm.trans (PySem.W.mg_of X G a8)
  cases e
  have F0 := fun_mk (st := s_put_letters) l0 c0 k0
  have b0 := F0.binds (ps := ["kind", "table"]) fun _ _ _ _ _ _ us hl => match us, hl with | [_, _], _ => rfl
  have F1 := fun_mk (st := s_w_cell_at) l1 c1 k1
  have b1 := F1.binds (ps := ["_law_script", "_law_k"]) fun _ _ _ _ _ _ us hl => match us, hl with | [_, _], _ => rfl
  have F2 := fun_mk (st := s_w_draw) l2 c2 k2
  have b2 := F2.binds (ps := ["_law_script", "_law_k"]) fun _ _ _ _ _ _ us hl => match us, hl with | [_, _], _ => rfl
  have F3 := fun_mk (st := s_w_next) l3 c3 k3
  have b3 := F3.binds (ps := ["_law_draw_here", "_law_many"]) fun _ _ _ _ _ _ us hl => match us, hl with | [_, _], _ => rfl
  have F4 := fun_mk (st := s_w_pick) l4 c4 k4
  have b4 := F4.binds (ps := ["_law_draw_here", "_law_some"]) fun _ _ _ _ _ _ us hl => match us, hl with | [_, _], _ => rfl
  have F5 := fun_mk (st := s_w_letter_kind) l5 c5 k5
  have b5 := F5.binds (ps := ["_law_draw_here", "_law_deep"]) fun _ _ _ _ _ _ us hl => match us, hl with | [_, _], _ => rfl
  have F6 := fun_mk (st := s_w_sized) l6 c6 k6
  have b6 := F6.binds (ps := ["_law_draw_here", "_law_many"]) fun _ _ _ _ _ _ us hl => match us, hl with | [_, _], _ => rfl
  have F7 := fun_mk (st := s_w_put) l7 c7 k7
  have b7 := F7.binds (ps := ["_law_kind", "_law_table"]) fun _ _ _ _ _ _ us hl => match us, hl with | [_, _], _ => rfl
  have F8 := fun_mk (st := s_law) l8 c8 k8
  have b8 := F8.binds (ps := ["_law_script"]) fun _ _ _ _ _ _ us hl => match us, hl with | [_], _ => rfl
  let T : Txt w K mg := { f_put_letters := _, fd_put_letters := _, F_put_letters := F0, g_put_letters := PySem.W.mg_of X G a0, b_put_letters := b0, f_w_cell_at := _, fd_w_cell_at := _, F_w_cell_at := F1, g_w_cell_at := PySem.W.mg_of X G a1, b_w_cell_at := b1, f_w_draw := _, fd_w_draw := _, F_w_draw := F2, g_w_draw := PySem.W.mg_of X G a2, b_w_draw := b2, f_w_next := _, fd_w_next := _, F_w_next := F3, g_w_next := PySem.W.mg_of X G a3, b_w_next := b3, f_w_pick := _, fd_w_pick := _, F_w_pick := F4, g_w_pick := PySem.W.mg_of X G a4, b_w_pick := b4, f_w_letter_kind := _, fd_w_letter_kind := _, F_w_letter_kind := F5, g_w_letter_kind := PySem.W.mg_of X G a5, b_w_letter_kind := b5, f_w_sized := _, fd_w_sized := _, F_w_sized := F6, g_w_sized := PySem.W.mg_of X G a6, b_w_sized := b6, f_w_put := _, fd_w_put := _, F_w_put := F7, g_w_put := PySem.W.mg_of X G a7, b_w_put := b7, f_law := _, fd_law := _, F_law := F8, g_law := PySem.W.mg_of X G a8, b_law := b8, z_abs := PySem.W.mg_none_of X G z_abs, z_dict := PySem.W.mg_none_of X G z_dict, z_len := PySem.W.mg_none_of X G z_len, z_max := PySem.W.mg_none_of X G z_max, z_min := PySem.W.mg_none_of X G z_min, z_range := PySem.W.mg_none_of X G z_range, z_repr := PySem.W.mg_none_of X G z_repr, z_tuple := PySem.W.mg_none_of X G z_tuple }
  exact ⟨PySem.W.fnOf "law" "law" (defArgs s_law) (defBody s_law) (defScope s_law) .none kV8 dc8 pm8 an8 cd8 ct8, fun s v => .of_eq rfl, fun base _ _ => ok_law T⟩
end Cl
open PySem PySem.W PyProof.Rows
set_option maxHeartbeats 0 in
theorem PySem.Challenge.cw_gaprun_k18_letters_put_holds : PySem.Challenge.rw_gaprun_k18_letters_put.Holds := by
  w_on; o_law; k_head; (case hw => w_witness2)
  k_fill
  refine Gl.walk_g0 (l := PySem.Challenge.rw_gaprun_k18_letters_put) (n := 63) (k := 66) (x := "_law_script") (CX := fun _ => L2.CX0) (sp := fun w => Ml.spM _ [] Cl.sp_law) rfl (by decide) rfl ⟨rfl, by decide, by decide⟩ (fun w h Y => PySem.W.kIn_of Y) ?F (fun _ H a ns hl _ hS => Ml.law_inM hS (Cl.law_pre hl)) (fun _ _ _ _ _ h => h)
  case F =>
    intro w mg fa h KX G hmg
    refine' Cl.all_mk KX G hmg ?a0 ?l0 ?c0 ?k0 ?a1 ?l1 ?c1 ?k1 ?a2 ?l2 ?c2 ?k2 ?a3 ?l3 ?c3 ?k3 ?a4 ?l4 ?c4 ?k4 ?a5 ?l5 ?c5 ?k5 ?a6 ?l6 ?c6 ?k6 ?a7 ?l7 ?c7 ?k7 ?a8 ?l8 ?c8 ?k8 ?z_abs ?z_dict ?z_len ?z_max ?z_min ?z_range ?z_repr ?z_tuple
    (case a0 => k_is); (case l0 => k_is); (case c0 => k_is); (case k0 => k_is); (case a1 => k_is); (case l1 => k_is); (case c1 => k_is); (case k1 => k_is); (case a2 => k_is); (case l2 => k_is); (case c2 => k_is); (case k2 => k_is); (case a3 => k_is); (case l3 => k_is); (case c3 => k_is); (case k3 => k_is); (case a4 => k_is); (case l4 => k_is); (case c4 => k_is); (case k4 => k_is); (case a5 => k_is); (case l5 => k_is); (case c5 => k_is); (case k5 => k_is); (case a6 => k_is); (case l6 => k_is); (case c6 => k_is); (case k6 => k_is); (case a7 => k_is); (case l7 => k_is); (case c7 => k_is); (case k7 => k_is); (case a8 => k_is); (case l8 => k_is); (case c8 => k_is); (case k8 => k_is); (case z_abs => k_is); (case z_dict => k_is); (case z_len => k_is); (case z_max => k_is); (case z_min => k_is); (case z_range => k_is); (case z_repr => k_is); (case z_tuple => k_is)
