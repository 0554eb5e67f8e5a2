import PyProof.Rows.All
import Wide.All
import OpenK.AllK
import Wide.FinOn
import HandS.ForMost
import HandS.Exc
import HandS.TryOnly
import HandS.ExcOwn
import HandS.WordsExc
import HandS.Walk
import HandS.Zip
import HandS.TupAny
import HandS.TupMul
import HandS.Deep
import HandS.DictComp
import HandS.OwnEq
import HandS.IsInst
import HandS.Conv
import HandS.Codes
import HandS.WideBits
import HandS.TupSets
import HandS.Strs
import HandS.Zip0
import PyProof.Draws
import KE.KDictDisplayH
import HandS.SetFor
import HandS.List
import PyProof.InstNe
import HandS.Style
import HandS.HeadHook1
import PySem.Challenge.RW_fullorring_k89_whole_ties_struck_and_all
set_option Elab.async false
set_option linter.all false
set_option maxRecDepth 100000
/-! Typed frames: a calculus of my own over the hand layer. -/
namespace Fo
open PySem L2

/-! ## counts, as a Counter's dict keeps them -/
def nums (n : Nat) : List Nat := (List.range 4).filter fun i => n.testBit i
def cntL (R : List (List Nat)) : List Nat → List Nat → Nat
  | [], _ => 1
  | p :: ps, T => (((R.getD p []).filter fun x => decide (x ∈ T)).map fun x => cntL R ps (T.erase x)).sum
def keyOf (P T : Nat) : List Key := [.inl (P : Int), .inl (T : Int)]
def Vld (R : List (List Nat)) (kvs : List (List Key × V)) : Prop :=
  ((kvs.map (·.1)).Nodup ∧ (valV kvs (keyOf 0 0)).isSome = true) ∧ ∀ kv ∈ kvs, ∃ P T : Nat, P < 16 ∧ T < 16 ∧ kv.1 = keyOf P T ∧ kv.2 = .int ((cntL R (nums P) (nums T) : Nat) : Int)

/-! ## heaps that grow -/
def Keep (o : HO) (u : Option HO) : Prop := u = some o
def Xt (H H' : Hp) : Prop := ∀ a o, H a = some o → Keep o (H' a)
abbrev notT (_ : HO) : Prop := True
theorem notT_l {xs} : notT (.lst xs) := trivial
theorem notT_t {xs} : notT (.tup xs) := trivial
theorem notT_i {C d f} : notT (.ins C d f) := trivial
theorem notT_k {k} : notT (.dK k) := trivial
theorem notT_f {o u} : notT (.frz o u) := trivial
theorem notT_o {x} : notT (.own x) := trivial
theorem Keep.eq {o u} (k : Keep o u) (_ : notT o) : u = some o := k
theorem Xt.refl (H : Hp) : Xt H H := fun _ _ h => h
theorem Xt.trans {H H1 H2 : Hp} (a : Xt H H1) (b : Xt H1 H2) : Xt H H2 := fun x o h => b x o (a x o h)
theorem Xt.at {H H' : Hp} {a o} (x : Xt H H') (h : H a = some o) (n : notT o) : H' a = some o := (x a o h).eq n
theorem Xt.some {H H' : Hp} {a o} (x : Xt H H') (h : H a = some o) : ∃ u, H' a = some u := by
  exact ⟨o, x a o h⟩
theorem Xt.free {H H' : Hp} {p} (x : Xt H H') (h : H' p = none) : H p = none := by
  cases e : H p with
  | none => rfl
  | some o => obtain ⟨u, q⟩ := x.some e; rw [h] at q; cases q
theorem Xt.new {H : Hp} {p o} (h : H p = none) : Xt H (upd H p o) := fun a u e => by
  rw [upd_ne (ne_of_none e h)]; exact e
theorem Xt.of_same {H H' : Hp} (s : Same H H') : Xt H H' := fun a o h => s a o h

/-! ## what is seen: without the addresses of M -/
def vis (M : List Addr) (H : Hp) : Hp := fun a => if a ∈ M then none else H a
theorem vis_eq {M : List Addr} {H : Hp} {a} (h : a ∉ M) : vis M H a = H a := if_neg h
theorem vis_in {M : List Addr} {H : Hp} {a} (h : a ∈ M) : vis M H a = none := if_pos h
theorem vis_some {M : List Addr} {H : Hp} {a o} (h : vis M H a = some o) : a ∉ M ∧ H a = some o := by
  unfold vis at h
  split at h
  · cases h
  · exact ⟨by assumption, h⟩
theorem vis_sub (M : List Addr) (H : Hp) : Xt (vis M H) H := fun a o h => (vis_some h).2
theorem Xt.vis {M : List Addr} {H H' : Hp} (x : Xt H H') : Xt (vis M H) (vis M H') := fun a o h => by
  obtain ⟨n, e⟩ := vis_some h
  rw [vis_eq n]; exact x a o e
theorem vis_upd_in {M : List Addr} {H : Hp} {a o} (h : a ∈ M) : Fo.vis M (upd H a o) = Fo.vis M H := by
  funext b
  by_cases hb : b ∈ M
  · rw [vis_in hb, vis_in hb]
  · rw [vis_eq hb, vis_eq hb, upd_ne (show b ≠ a from fun e => hb (by rw [e]; exact h))]
theorem vis_upd_out {M : List Addr} {H : Hp} {a o} (h : a ∉ M) : Fo.vis M (upd H a o) = upd (Fo.vis M H) a o := by
  funext b
  by_cases hb : b ∈ M
  · rw [vis_in hb, upd_ne (show b ≠ a from fun e => h (by rw [← e]; exact hb)), vis_in hb]
  · rw [vis_eq hb]
    by_cases e : b = a
    · subst e; rw [upd_same, upd_same]
    · rw [upd_ne e, upd_ne e, vis_eq hb]
/-- a new thing that is hidden at once -/
theorem vis_cons_new {M : List Addr} {H : Hp} {l o} (h : H l = none) : Fo.vis (l :: M) (upd H l o) = Fo.vis M H := by
  funext b
  by_cases e : b = l
  · subst e
    rw [vis_in List.mem_cons_self]
    by_cases hb : b ∈ M
    · rw [vis_in hb]
    · rw [vis_eq hb, h]
  · by_cases hb : b ∈ M
    · rw [vis_in (List.mem_cons_of_mem _ hb), vis_in hb]
    · rw [vis_eq (by simp [e, hb]), vis_eq hb, upd_ne e]
theorem vis_drop {l : Addr} {M : List Addr} {H : Hp} : Xt (Fo.vis (l :: M) H) (Fo.vis M H) := fun a o h => by
  obtain ⟨n, e⟩ := vis_some h
  rw [vis_eq (fun z => n (List.mem_cons_of_mem _ z))]; exact e

theorem rd_vis {M : List Addr} {H : Hp} {a : Addr} {u : HO} (h : Rd (Fo.vis M H) a u) : Rd H a u := by
  rcases h with h | ⟨o, h⟩
  · exact .inl (vis_some h).2
  · exact .inr ⟨o, (vis_some h).2⟩

/-! ## types of values: what is true of one, kept as the heap grows -/
structure Ty where
  p : Hp → V → Prop
  mo : ∀ {H H' v}, Xt H H' → p H v → p H' v
def Al (H : Hp) : List Ty → List V → Prop
  | [], [] => True
  | t :: ts, v :: vs => t.p H v ∧ Al H ts vs
  | _, _ => False
theorem Al.mo {H H' : Hp} (x : Xt H H') : ∀ {ts vs}, Al H ts vs → Al H' ts vs
  | [], [], _ => trivial
  | t :: ts, v :: vs, h => ⟨t.mo x h.1, Al.mo x h.2⟩
  | [], _ :: _, h => h.elim
  | _ :: _, [], h => h.elim
theorem Al.len {H : Hp} : ∀ {ts vs}, Al H ts vs → ts.length = vs.length
  | [], [], _ => rfl
  | _ :: _, _ :: _, h => by rw [List.length_cons, List.length_cons, Al.len h.2]
  | [], _ :: _, h => h.elim
  | _ :: _, [], h => h.elim
theorem Al.get {H : Hp} : ∀ {ts : List Ty} {vs : List V} {i : Nat} {t : Ty}, Al H ts vs → ts[i]? = some t → ∃ v, vs[i]? = some v ∧ t.p H v
  | t :: ts, v :: vs, 0, u, h, e => by cases e; exact ⟨v, rfl, h.1⟩
  | t :: ts, v :: vs, i + 1, u, h, e => by
    obtain ⟨w, a, b⟩ := Al.get (i := i) h.2 (by simpa using e)
    exact ⟨w, by simpa using a, b⟩
  | [], _, _, _, _, e => by simp at e
  | _ :: _, [], _, _, h, _ => h.elim
theorem Al.app {H : Hp} : ∀ {ts us vs ws}, Al H ts vs → Al H us ws → Al H (ts ++ us) (vs ++ ws)
  | [], _, [], _, _, h => h
  | _ :: _, _, _ :: _, _, h, k => ⟨h.1, Al.app h.2 k⟩
  | [], _, _ :: _, _, h, _ => h.elim
  | _ :: _, _, [], _, h, _ => h.elim
theorem Al.take {H : Hp} : ∀ {ts vs} (n : Nat), Al H ts vs → Al H (ts.take n) (vs.take n)
  | [], [], n, h => by simp; trivial
  | _ :: _, _ :: _, 0, h => by simp; trivial
  | _ :: _, _ :: _, n + 1, h => ⟨h.1, Al.take n h.2⟩
  | [], _ :: _, _, h => h.elim
  | _ :: _, [], _, h => h.elim
theorem Al.drop {H : Hp} : ∀ {ts vs} (n : Nat), Al H ts vs → Al H (ts.drop n) (vs.drop n)
  | [], [], n, h => by simp; trivial
  | _ :: _, _ :: _, 0, h => h
  | _ :: _, _ :: _, n + 1, h => Al.drop n h.2
  | [], _ :: _, _, h => h.elim
  | _ :: _, [], _, h => h.elim

theorem al1 {H : Hp} {t : Ty} : ∀ {vs : List V}, Al H [t] vs → ∃ v, vs = [v] ∧ t.p H v
  | [v], h => ⟨v, rfl, h.1⟩
  | [], h => h.elim
  | _ :: _ :: _, h => h.2.elim
theorem al2 {H : Hp} {t u : Ty} : ∀ {vs : List V}, Al H [t, u] vs → ∃ v w, vs = [v, w] ∧ t.p H v ∧ u.p H w
  | [v, w], h => ⟨v, w, rfl, h.1, h.2.1⟩
  | [], h => h.elim
  | [_], h => h.2.elim
  | _ :: _ :: _ :: _, h => h.2.2.elim
def Ty.is (v : V) : Ty := ⟨fun _ u => u = v, fun _ h => h⟩
abbrev tInt (i : Int) : Ty := Ty.is (.int i)
abbrev tN (n : Nat) : Ty := Ty.is (.int (n : Int))
abbrev tBl (b : Bool) : Ty := Ty.is (.bl b)
abbrev tNon : Ty := Ty.is .non
abbrev tS (s : Str) : Ty := Ty.is (.str s)
theorem Xt.rd {H H' : Hp} {a : Addr} {u : HO} (x : Xt H H') (n : notT u) (h : Rd H a u) : Rd H' a u := by
  rcases h with h | ⟨o, h⟩
  · exact .inl (x.at h n)
  · exact .inr ⟨o, x.at h notT_f⟩
theorem Xt.rdT {H H' : Hp} {a : Addr} {vs : List V} (x : Xt H H') (h : Rd H a (.tup vs)) : Rd H' a (.tup vs) := x.rd notT_t h
def Ty.tup (ts : List Ty) : Ty := ⟨fun H v => ∃ a vs, v = .ref a ∧ Rd H a (.tup vs) ∧ Al H ts vs, fun x ⟨a, vs, e, h, k⟩ => ⟨a, vs, e, x.rdT h, k.mo x⟩⟩
/-- one that may be written as a dict's key; one whose object is known to have no dict -/
def Ty.tupX (ts : List Ty) : Ty := ⟨fun H v => ∃ a vs, v = .ref a ∧ H a = some (.tup vs) ∧ Al H ts vs, fun x ⟨a, vs, e, h, k⟩ => ⟨a, vs, e, x.at h notT_t, k.mo x⟩⟩
def Ty.tupZ (ts : List Ty) : Ty := ⟨fun H v => ∃ a vs o, v = .ref a ∧ H a = some (.frz o (.tup vs)) ∧ o.dict = none ∧ Al H ts vs, fun x ⟨a, vs, o, e, h, d, k⟩ => ⟨a, vs, o, e, x.at h notT_f, d, k.mo x⟩⟩
theorem tupX_tup {ts : List Ty} (H : Hp) (v : V) : (Ty.tupX ts).p H v → (Ty.tup ts).p H v := fun ⟨a, vs, e, h, k⟩ => ⟨a, vs, e, .inl h, k⟩
theorem tupZ_tup {ts : List Ty} (H : Hp) (v : V) : (Ty.tupZ ts).p H v → (Ty.tup ts).p H v := fun ⟨a, vs, o, e, h, _, k⟩ => ⟨a, vs, e, .inr ⟨o, h⟩, k⟩
def Ty.lst (ts : List Ty) : Ty := ⟨fun H v => ∃ a vs, v = .ref a ∧ H a = some (.lst vs) ∧ Al H ts vs, fun x ⟨a, vs, e, h, k⟩ => ⟨a, vs, e, x.at h notT_l, k.mo x⟩⟩
/-- anything -/
def Ty.any : Ty := ⟨fun _ _ => True, fun _ h => h⟩
/-- one of many -/
def Ty.ex {α : Type} (f : α → Ty) : Ty := ⟨fun H v => ∃ a, (f a).p H v, fun x ⟨a, h⟩ => ⟨a, (f a).mo x h⟩⟩
theorem al_is {H : Hp} : ∀ {xs : List V} {vs}, Al H (xs.map Ty.is) vs → vs = xs
  | [], [], _ => rfl
  | x :: xs, v :: vs, h => by
    have e : v = x := h.1
    rw [e, al_is h.2]
  | [], _ :: _, h => h.elim
  | _ :: _, [], h => h.elim
theorem is_al {H : Hp} : ∀ {xs : List V}, Al H (xs.map Ty.is) xs
  | [] => trivial
  | _ :: _ => ⟨rfl, is_al⟩

/-! ## worlds: what is hidden, and what holds of it -/
structure Wd where
  M : List Addr
  Φ : Hp → Hp → Prop
  al : ∀ {h H a}, Φ h H → a ∈ M → ∃ o, H a = some o ∧ notT o
  mo : ∀ {h h' H H'}, Φ h H → Xt h h' → (∀ a ∈ M, H' a = H a) → Φ h' H'
def Wd.ok (W : Wd) (H : Hp) : Prop := W.Φ (vis W.M H) H
abbrev Wd.v (W : Wd) (H : Hp) : Hp := vis W.M H
def Wd.st (W : Wd) (H H' : Hp) : Prop := Xt (W.v H) (W.v H') ∧ W.ok H'
section
variable {W : Wd} {H H1 H2 : Hp}
theorem Wd.ok.st (h : W.ok H) : W.st H H := ⟨Xt.refl _, h⟩
theorem Wd.st.trans (a : W.st H H1) (b : W.st H1 H2) : W.st H H2 := ⟨a.1.trans b.1, b.2⟩
theorem Wd.ok.pure (h : W.ok H) (x : Xt H H1) : W.st H H1 := by
  refine ⟨x.vis, W.mo h x.vis fun a ha => ?_⟩
  obtain ⟨o, e, n⟩ := W.al h ha
  rw [e, x.at e n]
theorem Wd.ok.new (h : W.ok H) {p o} (hp : H p = none) : W.st H (upd H p o) := h.pure (Xt.new hp)
theorem Wd.ok.nM (h : W.ok H) {p} (hp : H p = none) : p ∉ W.M := fun z => by
  obtain ⟨o, e, _⟩ := W.al h z
  rw [hp] at e; cases e
theorem Wd.st.free (s : W.st H H1) {p} (hp : H1 p = none) : H p = none := by
  have n := s.2.nM hp
  have e : W.v H1 p = none := by rw [Wd.v, vis_eq n]; exact hp
  have e2 := s.1.free e
  rwa [Wd.v, vis_eq n] at e2
theorem Wd.ok.v_new (h : W.ok H) {p o} (hp : H p = none) : W.v (upd H p o) = upd (W.v H) p o := vis_upd_out (h.nM hp)
end
theorem Wd.ok.rd_new {W : Wd} {H : Hp} (h : W.ok H) {p : Addr} {vs : List V} (hp : H p = none) : Rd (W.v (upd H p (.tup vs))) p (.tup vs) := .inl (by rw [h.v_new hp, upd_same])
/-- one hidden thing more -/
def Wd.own (W : Wd) (D : Addr) (o : HO) (n : notT o) : Wd where
  M := D :: W.M
  Φ := fun h H => W.Φ h H ∧ H D = some o
  al := fun {h H a} hh ha => by
    rcases List.mem_cons.mp ha with e | ha
    · rw [e]; exact ⟨o, hh.2, n⟩
    · exact W.al hh.1 ha
  mo := fun {h h' H H'} hh x k => ⟨W.mo hh.1 x fun a ha => k a (List.mem_cons_of_mem _ ha), by rw [k D List.mem_cons_self]; exact hh.2⟩
/-- no hidden thing -/
def W0 : Wd := ⟨[], fun _ _ => True, fun _ h => (nomatch h), fun _ _ _ => trivial⟩
section
variable {W : Wd} {H H1 H2 : Hp} {D : Addr} {o o' : HO} {n : notT o} {n' : notT o'}
theorem Wd.ok.own (h : W.ok H) (hD : H D = none) : (W.own D o n).ok (upd H D o) := by
  refine ⟨?_, upd_same⟩
  show W.Φ (vis (D :: W.M) (upd H D o)) (upd H D o)
  rw [vis_cons_new hD]
  exact W.mo h (Xt.refl _) fun a ha => upd_ne fun e => h.nM hD (e ▸ ha)
theorem own_v (h : W.ok H) (hD : H D = none) : (W.own D o n).v (upd H D o) = W.v H := vis_cons_new hD
theorem Wd.ok.at (h : (W.own D o n).ok H) : H D = some o := h.2
/-- it is changed -/
theorem Wd.ok.put (h : (W.own D o n).ok H) (hm : D ∉ W.M) : (W.own D o' n').ok (upd H D o') := by
  refine ⟨?_, upd_same⟩
  show W.Φ (vis (D :: W.M) (upd H D o')) (upd H D o')
  rw [vis_upd_in List.mem_cons_self]
  exact W.mo h.1 (Xt.refl _) fun a ha => upd_ne fun e => hm (e ▸ ha)
theorem own_put : (W.own D o' n').v (upd H D o') = (W.own D o n).v H := vis_upd_in List.mem_cons_self
/-- it is seen again -/
theorem Wd.ok.show_ (h : (W.own D o n).ok H) : W.ok H := W.mo h.1 vis_drop fun _ _ => rfl
theorem own_sub : Xt ((W.own D o n).v H) (W.v H) := vis_drop
end

/-! ## frames -/
abbrev Ctx := List (Option Ty)
def Fr (H : Hp) : Ctx → L2.St → Prop
  | [], [] => True
  | none :: g, _ :: s => Fr H g s
  | some T :: g, some v :: s => T.p H v ∧ Fr H g s
  | _, _ => False
theorem Fr.mo {H H' : Hp} (x : Xt H H') : ∀ {g s}, Fr H g s → Fr H' g s
  | [], [], _ => trivial
  | none :: g, _ :: s, h => Fr.mo (g := g) (s := s) x h
  | some T :: g, some v :: s, h => ⟨T.mo x h.1, Fr.mo (g := g) (s := s) x h.2⟩
  | some T :: g, none :: s, h => h.elim
  | [], _ :: _, h => h.elim
  | none :: _, [], h => h.elim
  | some _ :: _, [], h => h.elim
theorem Fr.get {H : Hp} : ∀ {g : Ctx} {s : L2.St} {i : Nat} {T : Ty}, Fr H g s → g[i]? = some (some T) → ∃ v, s[i]? = some (some v) ∧ T.p H v
  | some T :: g, some v :: s, 0, U, h, e => by cases e; exact ⟨v, rfl, h.1⟩
  | none :: g, _ :: s, 0, U, h, e => by cases e
  | some T :: g, some v :: s, i + 1, U, h, e => by
    obtain ⟨w, a, b⟩ := Fr.get (g := g) (s := s) (i := i) h.2 (by simpa using e)
    exact ⟨w, by simpa using a, b⟩
  | none :: g, _ :: s, i + 1, U, h, e => by
    obtain ⟨w, a, b⟩ := Fr.get (g := g) (s := s) (i := i) h (by simpa using e)
    exact ⟨w, by simpa using a, b⟩
  | some T :: g, none :: s, _, _, h, _ => h.elim
  | [], _, _, _, _, e => by simp at e
  | none :: _, [], _, _, h, _ => h.elim
  | some _ :: _, [], _, _, h, _ => h.elim
theorem Fr.set {H : Hp} {T : Ty} {v} (hv : T.p H v) : ∀ {g s} (i : Nat), Fr H g s → Fr H (g.set i (some T)) (s.set i (some v))
  | [], [], _, _ => trivial
  | none :: g, _ :: s, 0, h => ⟨hv, h⟩
  | some T :: g, some w :: s, 0, h => ⟨hv, h.2⟩
  | none :: g, _ :: s, i + 1, h => Fr.set (g := g) (s := s) hv i h
  | some U :: g, some w :: s, i + 1, h => ⟨h.1, Fr.set (g := g) (s := s) hv i h.2⟩
  | some T :: g, none :: s, _, h => h.elim
  | [], _ :: _, _, h => h.elim
  | none :: _, [], _, h => h.elim
  | some _ :: _, [], _, h => h.elim
theorem Fr.forget {H : Hp} {w : Option V} : ∀ {g s} (i : Nat), Fr H g s → Fr H (g.set i none) (s.set i w)
  | [], [], _, _ => trivial
  | none :: g, _ :: s, 0, h => h
  | some T :: g, some w :: s, 0, h => h.2
  | none :: g, _ :: s, i + 1, h => Fr.forget (g := g) (s := s) i h
  | some U :: g, some w :: s, i + 1, h => ⟨h.1, Fr.forget (g := g) (s := s) i h.2⟩
  | some T :: g, none :: s, _, h => h.elim
  | [], _ :: _, _, h => h.elim
  | none :: _, [], _, h => h.elim
  | some _ :: _, [], _, h => h.elim
def wipeC (g : Ctx) : List Nat → Ctx
  | [] => g
  | v :: vs => (wipeC g vs).set v none
theorem Fr.wipe {H : Hp} {g s} (h : Fr H g s) : ∀ vs, Fr H (wipeC g vs) (L2.wipe s vs)
  | [] => h
  | v :: vs => Fr.forget v (Fr.wipe h vs)
theorem Fr.start {H : Hp} : ∀ {ts vs n}, Al H ts vs → Fr H (ts.map some ++ List.replicate n none) (vs.map some ++ List.replicate n none)
  | [], [], 0, _ => trivial
  | [], [], n + 1, _ => Fr.start (ts := []) (vs := []) (n := n) trivial
  | t :: ts, v :: vs, n, h => ⟨h.1, Fr.start h.2⟩
  | [], _ :: _, _, h => h.elim
  | _ :: _, [], _, h => h.elim
theorem wipe_get (σ : L2.St) (i : Nat) : ∀ vs : List Nat, (L2.wipe σ vs)[i]? = if i ∈ vs then (σ[i]?).map (fun _ => none) else σ[i]?
  | [] => by simp [L2.wipe]
  | v :: vs => by
    have ih := wipe_get σ i vs
    unfold L2.wipe
    by_cases e : v = i
    · subst e
      rw [if_pos List.mem_cons_self]
      by_cases hl : v < (L2.wipe σ vs).length
      · rw [List.getElem?_set_self hl]
        rw [L2.wipe_length] at hl
        rw [List.getElem?_eq_getElem hl]; rfl
      · rw [List.getElem?_eq_none (by rw [List.length_set]; omega)]
        rw [L2.wipe_length] at hl
        rw [List.getElem?_eq_none (by omega)]; rfl
    · rw [List.getElem?_set_ne e, ih]
      by_cases h : i ∈ vs
      · rw [if_pos h, if_pos (List.mem_cons_of_mem _ h)]
      · rw [if_neg h, if_neg (by simp [h]; exact fun z => e z.symm)]
theorem wipe_set {σ : L2.St} {vs : List Nat} {j : Nat} {x} (h : j ∈ vs) : L2.wipe ((L2.wipe σ vs).set j x) vs = L2.wipe σ vs := by
  refine List.ext_getElem? fun i => ?_
  rw [wipe_get, wipe_get]
  by_cases hi : i ∈ vs
  · rw [if_pos hi, if_pos hi]
    by_cases e : j = i
    · subst e
      by_cases hl : j < (L2.wipe σ vs).length
      · rw [List.getElem?_set_self hl]
        rw [L2.wipe_length] at hl
        rw [List.getElem?_eq_getElem hl]; rfl
      · rw [List.getElem?_eq_none (by rw [List.length_set]; omega)]
        rw [L2.wipe_length] at hl
        rw [List.getElem?_eq_none (by omega)]
    · rw [List.getElem?_set_ne e, wipe_get, if_pos hi]
      cases σ[i]? <;> rfl
  · rw [if_neg hi, if_neg hi, List.getElem?_set_ne (show j ≠ i from fun e => hi (by rw [← e]; exact h)), wipe_get, if_neg hi]
theorem wipe_set2 {σ : L2.St} {vs : List Nat} {j k : Nat} {x y} (h : j ∈ vs) (h' : k ∈ vs) : L2.wipe (((L2.wipe σ vs).set j x).set k y) vs = L2.wipe σ vs := by
  have e : ∀ τ : L2.St, L2.wipe (τ.set k y) vs = L2.wipe τ vs := fun τ => by
    refine List.ext_getElem? fun i => ?_
    rw [wipe_get, wipe_get]
    by_cases hi : i ∈ vs
    · rw [if_pos hi, if_pos hi]
      by_cases q : k = i
      · subst q
        by_cases hl : k < τ.length
        · rw [List.getElem?_set_self hl, List.getElem?_eq_getElem hl]; rfl
        · rw [List.getElem?_eq_none (by rw [List.length_set]; omega), List.getElem?_eq_none (by omega)]
      · rw [List.getElem?_set_ne q]
    · rw [if_neg hi, if_neg hi, List.getElem?_set_ne (show k ≠ i from fun q => hi (by rw [← q]; exact h'))]
  rw [e, wipe_set h]

/-! ## judgements -/
/-- te gives a T -/
structure EV (W : Wd) (G : Ctx) (te : TE) (T : Ty) : Prop where
  run : ∀ {σ : L2.St} {H : Hp} {Q : VK}, W.ok H → Fr (W.v H) G σ → (∀ v H', W.st H H' → T.p (W.v H') v → Q v H') → te σ H Q
structure EVT (W : Wd) (G : Ctx) (tt : TT) (b : Bool) : Prop where
  run : ∀ {σ : L2.St} {H : Hp} {Q : Bool → Hp → Prop}, W.ok H → Fr (W.v H) G σ → (∀ H', W.st H H' → Q b H') → tt σ H Q
structure EVA (W : Wd) (G : Ctx) (ta : TA) (ts : List Ty) : Prop where
  run : ∀ {σ : L2.St} {H : Hp} {Q : List V → Hp → Prop}, W.ok H → Fr (W.v H) G σ → (∀ vs H', W.st H H' → Al (W.v H') ts vs → Q vs H') → ta σ H Q
structure EVO (W : Wd) (G : Ctx) (to : TO) (o : Option Int) : Prop where
  run : ∀ {σ : L2.St} {H : Hp} {Q : Option Int → Hp → Prop}, W.ok H → Fr (W.v H) G σ → (∀ H', W.st H H' → Q o H') → to σ H Q
/-- a two-place operation by values -/
structure RV (W : Wd) (r : R2) (T U S : Ty) : Prop where
  run : ∀ {x y : V} {H : Hp} {Q : VK}, W.ok H → T.p (W.v H) x → U.p (W.v H) y → (∀ v H', W.st H H' → S.p (W.v H') v → Q v H') → r x y H Q
structure RU (W : Wd) (r : V → Hp → VK → Prop) (T S : Ty) : Prop where
  run : ∀ {x : V} {H : Hp} {Q : VK}, W.ok H → T.p (W.v H) x → (∀ v H', W.st H H' → S.p (W.v H') v → Q v H') → r x H Q
structure RC (W : Wd) (r : List V → Hp → VK → Prop) (ts : List Ty) (S : Ty) : Prop where
  run : ∀ {vs : List V} {H : Hp} {Q : VK}, W.ok H → Al (W.v H) ts vs → (∀ v H', W.st H H' → S.p (W.v H') v → Q v H') → r vs H Q

section
variable {W : Wd} {G : Ctx} {te ta tb tc : TE} {T U S : Ty} {t u : TT} {b c : Bool} {ts : List Ty} {tr : TA}
theorem EV.var {i : Nat} (h : G[i]? = some (some T)) : EV W G (tVar i) T := ⟨fun ok fr k => by
  obtain ⟨v, e, p⟩ := fr.get h
  exact ⟨v, e, k v _ ok.st p⟩⟩
theorem EV.cst {v : V} : EV W G (tC v) (Ty.is v) := ⟨fun ok _ k => k v _ ok.st rfl⟩
theorem EV.to (h : EV W G te T) (e : ∀ H v, T.p H v → U.p H v) : EV W G te U := ⟨fun ok fr k => h.run ok fr fun v H' s p => k v H' s (e _ v p)⟩
theorem EV.eq (h : EV W G te T) (e : T = U) : EV W G te U := e ▸ h
theorem EVT.eq (h : EVT W G t b) (e : b = c) : EVT W G t c := e ▸ h
theorem EVA.eq {us : List Ty} (h : EVA W G tr ts) (e : ts = us) : EVA W G tr us := e ▸ h
theorem EV.op {r : R2} (ha : EV W G ta T) (hb : EV W G tb U) (hr : RV W r T U S) : EV W G (tOp r ta tb) S := ⟨fun ok fr k =>
  ha.run ok fr fun x H1 s1 p1 => hb.run s1.2 (fr.mo s1.1) fun y H2 s2 p2 => hr.run s2.2 (T.mo s2.1 p1) p2 fun v H3 s3 p3 => k v H3 ((s1.trans s2).trans s3) p3⟩
theorem EV.un {r : V → Hp → VK → Prop} (ha : EV W G ta T) (hr : RU W r T S) : EV W G (tUn r ta) S := ⟨fun ok fr k =>
  ha.run ok fr fun x H1 s1 p1 => hr.run s1.2 p1 fun v H3 s3 p3 => k v H3 (s1.trans s3) p3⟩
theorem EVA.nil : EVA W G tNil [] := ⟨fun ok _ k => k [] _ ok.st trivial⟩
theorem EVA.cons (h : EV W G te T) (hr : EVA W G tr ts) : EVA W G (tCons te tr) (T :: ts) := ⟨fun ok fr k =>
  h.run ok fr fun v H1 s1 p1 => hr.run s1.2 (fr.mo s1.1) fun vs H2 s2 p2 => k (v :: vs) H2 (s1.trans s2) ⟨T.mo s2.1 p1, p2⟩⟩
theorem EV.cb {r : List V → Hp → VK → Prop} (h : EVA W G tr ts) (hr : RC W r ts S) : EV W G (tCB r tr) S := ⟨fun ok fr k =>
  h.run ok fr fun vs H1 s1 p1 => hr.run s1.2 p1 fun v H3 s3 p3 => k v H3 (s1.trans s3) p3⟩
theorem EV.tup (h : EVA W G tr ts) (hl : ts.length ≤ 1000) : EV W G (tTup tr) (Ty.tup ts) := ⟨fun ok fr k =>
  h.run ok fr fun vs H1 s1 p1 => ⟨by have := p1.len; have := (by decide : 1000 ≤ sizeLine); omega, fun p hp => by
    refine k (.ref p) _ (s1.trans (s1.2.new hp)) ⟨p, vs, rfl, .inl ?_, ?_⟩
    · rw [s1.2.v_new hp, upd_same]
    · exact p1.mo (s1.2.new (o := .tup vs) hp).1⟩⟩
theorem EV.tupX (h : EVA W G tr ts) (hl : ts.length ≤ 1000) : EV W G (tTup tr) (Ty.tupX ts) := ⟨fun ok fr k =>
  h.run ok fr fun vs H1 s1 p1 => ⟨by have := p1.len; have := (by decide : 1000 ≤ sizeLine); omega, fun p hp => by
    refine k (.ref p) _ (s1.trans (s1.2.new hp)) ⟨p, vs, rfl, ?_, ?_⟩
    · rw [s1.2.v_new hp, upd_same]
    · exact p1.mo (s1.2.new (o := .tup vs) hp).1⟩⟩
theorem EV.lst (h : EVA W G tr ts) (hl : ts.length ≤ 1000) : EV W G (tLst tr) (Ty.lst ts) := ⟨fun ok fr k =>
  h.run ok fr fun vs H1 s1 p1 => ⟨by have := p1.len; have := (by decide : 1000 ≤ sizeLine); omega, fun p hp => by
    refine k (.ref p) _ (s1.trans (s1.2.new hp)) ⟨p, vs, rfl, ?_, ?_⟩
    · rw [s1.2.v_new hp, upd_same]
    · exact p1.mo (s1.2.new (o := .lst vs) hp).1⟩⟩
/-! tests -/
theorem EVT.test (h : EV W G te (tBl b)) : EVT W G (tTest te) b := ⟨fun ok fr k => h.run ok fr fun v H' s p => ⟨b, p, k H' s⟩⟩
theorem EVT.B (h : EV W G te (tBl b)) : EVT W G (tB te) b := ⟨fun ok fr k => h.run ok fr fun v H' s p => ⟨b, p, k H' s⟩⟩
theorem EVT.and (h1 : EVT W G t b) (h2 : b = true → EVT W G u c) : EVT W G (tAnd t u) (b && c) := ⟨fun ok fr k => h1.run ok fr fun H1 s1 => by
  cases b with
  | true => exact (h2 rfl).run s1.2 (fr.mo s1.1) fun H2 s2 => k H2 (s1.trans s2)
  | false => exact k H1 s1⟩
theorem EVT.or (h1 : EVT W G t b) (h2 : b = false → EVT W G u c) : EVT W G (tOr t u) (b || c) := ⟨fun ok fr k => h1.run ok fr fun H1 s1 => by
  cases b with
  | false => exact (h2 rfl).run s1.2 (fr.mo s1.1) fun H2 s2 => k H2 (s1.trans s2)
  | true => exact k H1 s1⟩
theorem EVT.not (h1 : EVT W G t b) : EVT W G (tNot t) (!b) := ⟨fun ok fr k => h1.run ok fr fun H1 s1 => k H1 s1⟩
theorem EV.andV (h1 : EV W G ta (tBl b)) (h2 : b = true → EV W G tb (tBl c)) : EV W G (tAndV ta tb) (tBl (b && c)) := ⟨fun ok fr k => h1.run ok fr fun v H1 s1 p => ⟨b, p, by
  cases b with
  | true => exact (h2 rfl).run s1.2 (fr.mo s1.1) fun w H2 s2 q => k w H2 (s1.trans s2) q
  | false => exact k _ H1 s1 rfl⟩⟩
theorem EV.orV (h1 : EV W G ta (tBl b)) (h2 : b = false → EV W G tb (tBl c)) : EV W G (tOrV ta tb) (tBl (b || c)) := ⟨fun ok fr k => h1.run ok fr fun v H1 s1 p => ⟨b, p, by
  cases b with
  | false => exact (h2 rfl).run s1.2 (fr.mo s1.1) fun w H2 s2 q => k w H2 (s1.trans s2) q
  | true => exact k _ H1 s1 rfl⟩⟩
theorem EV.notV (h1 : EV W G ta (tBl b)) : EV W G (tNotV ta) (tBl (!b)) := ⟨fun ok fr k => h1.run ok fr fun v H1 s1 p => ⟨b, p, k _ H1 s1 rfl⟩⟩
theorem EV.if_ (h : EVT W G t b) (h1 : b = true → EV W G ta T) (h2 : b = false → EV W G tb T) : EV W G (tIf t ta tb) T := ⟨fun ok fr k => h.run ok fr fun H1 s1 => by
  cases b with
  | true => exact (h1 rfl).run s1.2 (fr.mo s1.1) fun w H2 s2 q => k w H2 (s1.trans s2) q
  | false => exact (h2 rfl).run s1.2 (fr.mo s1.1) fun w H2 s2 q => k w H2 (s1.trans s2) q⟩
theorem EV.chain {r r' : R2} {b c : Bool} (ha : EV W G ta T) (hb : EV W G tb U) (hr : RV W r T U (tBl b)) (hc : EV W G tc S) (hr' : RV W r' U S (tBl c)) : EV W G (tChain r r' ta tb tc) (tBl (b && c)) := ⟨fun ok fr k =>
  ha.run ok fr fun x H1 s1 p1 => hb.run s1.2 (fr.mo s1.1) fun y H2 s2 p2 => hr.run s2.2 (T.mo s2.1 p1) p2 fun v H3 s3 p3 => ⟨b, p3, by
    have s := (s1.trans s2).trans s3
    cases b with
    | true =>
      rw [if_pos rfl]
      exact hc.run s3.2 (fr.mo s.1) fun z H4 s4 p4 => hr'.run s4.2 (U.mo (s3.trans s4).1 p2) p4 fun w H5 s5 p5 => k w H5 ((s.trans s4).trans s5) p5
    | false =>
      rw [if_neg Bool.false_ne_true]
      exact k _ H3 s rfl⟩⟩
/-! operations of ints -/
theorem RV.I0 {g : Int → Int → V} {i j : Int} : RV W (rI0 g) (tInt i) (tInt j) (Ty.is (g i j)) := ⟨fun ok hx hy k => ⟨i, j, hx, hy, k _ _ ok.st rfl⟩⟩
theorem RV.I {C : Int → Int → Prop} {g : Int → Int → V} {i j : Int} (hc : C i j) : RV W (rI C g) (tInt i) (tInt j) (Ty.is (g i j)) := ⟨fun ok hx hy k => ⟨i, j, hx, hy, hc, k _ _ ok.st rfl⟩⟩
theorem RU.neg {g : Int → V} {i : Int} : RU W (rU g) (tInt i) (Ty.is (g i)) := ⟨fun ok hx k => ⟨i, hx, k _ _ ok.st rfl⟩⟩
theorem RV.Eq {x y : V} (h : scal x y = true) : RV W rEq (Ty.is x) (Ty.is y) (tBl (decide (x = y))) := ⟨fun ok hx hy k => by cases hx; cases hy; exact ⟨h, k _ _ ok.st rfl⟩⟩
theorem RV.Ne {x y : V} (h : scal x y = true) : RV W rNe (Ty.is x) (Ty.is y) (tBl (!decide (x = y))) := ⟨fun ok hx hy k => by cases hx; cases hy; exact ⟨h, k _ _ ok.st rfl⟩⟩
theorem EV.isN {x : V} (h : EV W G ta (Ty.is x)) : EV W G (tIsN ta) (tBl (decide (x = .non))) := ⟨fun ok fr k => h.run ok fr fun v H1 s1 p => by cases p; exact k _ H1 s1 rfl⟩
theorem EV.notN {x : V} (h : EV W G ta (Ty.is x)) : EV W G (tNotN ta) (tBl (!decide (x = .non))) := ⟨fun ok fr k => h.run ok fr fun v H1 s1 p => by cases p; exact k _ H1 s1 rfl⟩
end
end Fo
set_option Elab.async false
set_option linter.all false
set_option maxRecDepth 100000
/-! Defs of the text, calls of them; bodies by typed frames. -/
namespace Fo
open PySem PySem.Spec PyProof.Rows L2

def topS (i : Nat) : Stmt := PySem.Challenge.pw_fullorring_k89_whole_ties_struck_and_all.main.body.getD i (.Pass ⟨0, 0, 0, 0⟩)

/-- a def of the text -/
structure Df (K : PySem.W.Frag) (x qual : Str) (st : Stmt) (ps : List Str) where
  a : Addr
  fd : FuncData
  F : Fun K x qual st a fd
  b : Binds K fd ps []
/-- .. of the top -/
structure Gf (K : PySem.W.Frag) (mg : Str → Option Value) (x : Str) (st : Stmt) (ps : List Str) extends Df K x x st ps where
  m : mg x = some (.ref a)
/-- .. of the class at C -/
structure Mf (K : PySem.W.Frag) (C : Addr) (x qual : Str) (st : Stmt) (ps : List Str) extends Df K x qual st ps where
  mt : Meth K C x a
/-- a class and its own __init__ -/
structure Cf (K : PySem.W.Frag) (mg : Str → Option Value) (x : Str) (fs : List Str) (qual : Str) (st : Stmt) (ps : List Str) extends Df K "__init__" qual st ps where
  C : Addr
  cl : Cls K C
  na : ∀ f ∈ fs, NoAttr K C f
  mkk : Mk K C a
  m : mg x = some (.ref C)

/-! ## bodies -/
/-- a body gives an R -/
structure ST (W : Wd) (G : Ctx) (t : TS) (R : Ty) : Prop where
  run : ∀ {σ : L2.St} {H : Hp} {D : Ends}, W.ok H → Fr (W.v H) G σ → (∀ σ' H', W.st H H' → R.p (W.v H') .non → D.nx σ' H') → (∀ v H', W.st H H' → R.p (W.v H') v → D.rt v H') → t D σ H
section
variable {W : Wd} {G : Ctx} {te : TE} {T R : Ty} {t u v : TS} {tt : TT} {b : Bool}
theorem ST.ret (h : EV W G te R) : ST W G (tRet te) R := ⟨fun ok fr _ k => h.run ok fr k⟩
theorem ST.retTo (h : EV W G te T) (e : T = R) : ST W G (tRet te) R := ⟨fun ok fr _ k => (h.eq e).run ok fr k⟩
theorem ST.next (h : ∀ H, R.p H .non) : ST W G tNext R := ⟨fun ok _ k _ => k _ _ ok.st (h _)⟩
theorem ST.asg {i : Nat} (h : EV W G te T) (k : ST W (G.set i (some T)) u R) : ST W G (tSeq (tAsg te (gName i)) u) R := ⟨fun ok fr kn kr =>
  h.run ok fr fun v H1 s1 p => k.run s1.2 ((fr.mo s1.1).set p i) (fun σ' H' s => kn σ' H' (s1.trans s)) fun w H' s => kr w H' (s1.trans s)⟩
/-- a, b = e -/
theorem ST.asg2 {K : PySem.W.Frag} {i j : Nat} {T1 T2 : Ty} (h : EV W G te (Ty.tup [T1, T2])) (k : ST W ((G.set i (some T1)).set j (some T2)) u R) : ST W G (tSeq (tAsg te (gTup K 2 (gCons (gName i) (gCons (gName j) gNil)))) u) R := ⟨fun ok fr kn kr =>
  h.run ok fr fun v H1 s1 p => by
    obtain ⟨a, vs, rfl, e, al⟩ := p
    match vs, al with
    | [x, y], al =>
      exact ⟨a, [x, y], rfl, .inl (rd_vis e), rfl, x, [y], rfl, y, [], rfl, rfl,
        k.run s1.2 (((fr.mo s1.1).set al.1 i).set al.2.1 j) (fun σ' H' s => kn σ' H' (s1.trans s)) fun w H' s => kr w H' (s1.trans s)⟩⟩
theorem ST.if_ (h : EVT W G tt b) (h1 : b = true → ST W G (tSeq t u) R) (h2 : b = false → ST W G (tSeq v u) R) : ST W G (tSeq (tIfS tt t v) u) R := ⟨fun ok fr kn kr =>
  h.run ok fr fun H1 s1 => by
    cases b with
    | true => exact (h1 rfl).run s1.2 (fr.mo s1.1) (fun σ' H' s => kn σ' H' (s1.trans s)) fun w H' s => kr w H' (s1.trans s)
    | false => exact (h2 rfl).run s1.2 (fr.mo s1.1) (fun σ' H' s => kn σ' H' (s1.trans s)) fun w H' s => kr w H' (s1.trans s)⟩
theorem ST.if1 (h : EVT W G tt b) (h1 : b = true → ST W G t R) (h2 : b = false → ST W G v R) : ST W G (tIfS tt t v) R := ⟨fun ok fr kn kr =>
  h.run ok fr fun H1 s1 => by
    cases b with
    | true => exact (h1 rfl).run s1.2 (fr.mo s1.1) (fun σ' H' s => kn σ' H' (s1.trans s)) fun w H' s => kr w H' (s1.trans s)
    | false => exact (h2 rfl).run s1.2 (fr.mo s1.1) (fun σ' H' s => kn σ' H' (s1.trans s)) fun w H' s => kr w H' (s1.trans s)⟩
theorem ST.skip (h : ST W G u R) : ST W G (tSeq tNext u) R := ⟨fun ok fr kn kr => h.run ok fr kn kr⟩
theorem ST.assoc (h : ST W G (tSeq t (tSeq u v)) R) : ST W G (tSeq (tSeq t u) v) R := ⟨fun ok fr kn kr => h.run ok fr kn kr⟩
theorem ST.retSeq (h : EV W G te R) : ST W G (tSeq (tRet te) u) R := ⟨fun ok fr _ k => h.run ok fr k⟩
theorem ST.drop (h : EV W G te T) (k : ST W G u R) : ST W G (tSeq (tDrop te) u) R := ⟨fun ok fr kn kr =>
  h.run ok fr fun v H1 s1 p => k.run s1.2 (fr.mo s1.1) (fun σ' H' s => kn σ' H' (s1.trans s)) fun w H' s => kr w H' (s1.trans s)⟩
theorem ST.drop1 (h : EV W G te T) (k : ∀ H, R.p H .non) : ST W G (tDrop te) R := ⟨fun ok fr kn kr =>
  h.run ok fr fun v H1 s1 p => kn _ H1 s1 (k _)⟩
end

/-- the promise of a def that changes nothing that is seen -/
def pSp {ι : Type} (args : ι → List Ty) (ok : ι → Prop) (res : ι → Ty) : Sp := fun vs H Q _ => ∃ (i : ι) (W : Wd), ok i ∧ W.ok H ∧ Al (W.v H) (args i) vs ∧ ∀ v H', W.st H H' → (res i).p (W.v H') v → Q v H'
theorem EV.call {ι : Type} {args : ι → List Ty} {ok : ι → Prop} {res : ι → Ty} {W : Wd} {G : Ctx} {E : XK} {ta : TA} {ts : List Ty} (i : ι) (h : EVA W G ta ts) (hi : ok i) (e : ts = args i := by rfl) : EV W G (tCall (pSp args ok res) [] E ta) (res i) := ⟨fun okW fr k =>
  h.run okW fr fun vs H1 s1 p1 => by
    subst e
    exact ⟨i, W, hi, s1.2, by rw [List.append_nil]; exact p1, fun v H' s p => k v H' (s1.trans s) p⟩⟩
/-- an instance's class -/
def IsI (K : PySem.W.Frag) (C : Addr) (m : Str) (T : Ty) : Prop := ∀ H v, T.p H v → ∃ a dx fs, v = .ref a ∧ H a = some (.ins C dx fs) ∧ fs.lookup m = none
theorem EV.meth {K : PySem.W.Frag} {ι : Type} {args : ι → List Ty} {ok : ι → Prop} {res : ι → Ty} {W : Wd} {G : Ctx} {C : Addr} {m : Str} {E : XK} {to : TE} {ta : TA} {T : Ty} {ts : List Ty} (i : ι) (ho : EV W G to T) (hI : IsI K C m T) (h : EVA W G ta ts) (hi : ok i)
    (e : T :: ts = args i := by rfl) : EV W G (tMeth C m (pSp args ok res) [] E to ta) (res i) := ⟨fun okW fr k =>
  ho.run okW fr fun v H0 s0 p0 => by
    obtain ⟨a, dx, fs, rfl, ha, hl⟩ := hI _ _ p0
    refine ⟨a, dx, fs, rfl, (vis_some ha).2, hl, ?_⟩
    refine h.run s0.2 (fr.mo s0.1) fun vs H1 s1 p1 => ⟨i, W, hi, s1.2, ?_, fun v H' s p => k v H' ((s0.trans s1).trans s) p⟩
    rw [← e, List.append_nil]
    exact ⟨T.mo s1.1 p0, p1⟩⟩
section
variable {P : Program} {w : World} {K : PySem.W.Frag} {mg : Str → Option Value} {base : Heap}
theorem pure_ok {x qual : Str} {st : Stmt} {f : Addr} {fd : FuncData} {N ps : List Str} {k : Nat} {ι : Type} {args : ι → List Ty} {ok : ι → Prop} {res : ι → Ty} (F : Fun K x qual st f fd) (S : FnScope N ps (defScope st)) (hl : ∀ i, (args i).length = ps.length)
    (hb : ∀ (cdv : Value) (A : Around) (outer : List Env) (s : Shared) (H : Hp) (E : XK), Room k (A.deeper (envOfC qual (defScope st) s.heap.objs.size f cdv)) →
      ∃ t, PSs (cxOf CX0 P w K mg base N qual (defScope st) f cdv A outer s H E).nox (defBody st) t ∧ ∀ (W : Wd) (i : ι), ok i → ST W ((args i).map some ++ List.replicate (N.length - ps.length) none) t (res i)) :
    FnOk P w K mg base CX0 (k + 1) f fd ps (pSp args ok res) := by
  refine F.ok S (fun vs H Q E h => ?_) (fun cdv A outer s H vs Q E hr h => ?_)
  · obtain ⟨i, W, _, _, al, _⟩ := h
    rw [← al.len, hl]
  · obtain ⟨i, W, hi, okW, al, kq⟩ := h
    obtain ⟨t, ht, hs⟩ := hb cdv A outer s H E hr
    refine ⟨t, ht, ?_⟩
    have e : vs.length = ps.length := by rw [← al.len, hl]
    have fr : Fr (W.v H) ((args i).map some ++ List.replicate (N.length - ps.length) none) (L2.start N vs) := by
      unfold L2.start
      rw [e]
      exact Fr.start al
    exact (hs W i hi).run okW fr (fun σ' H' s p => kq .non H' s p) fun v H' s p => kq v H' s p
end
end Fo
set_option Elab.async false
set_option linter.all false
set_option maxRecDepth 100000
/-! Rules for fields, places, slices, walks, comprehensions, built-ins. -/
namespace Fo
open PySem PySem.Spec PyProof.Rows L2
abbrev tupF (xs : List V) : Ty := Ty.tup (xs.map Ty.is)
abbrev lstF (xs : List V) : Ty := Ty.lst (xs.map Ty.is)
def nV (n : Nat) : V := .int (n : Int)
def oV : Option Nat → V
  | none => .non
  | some k => .int (k : Int)
section
variable {K : PySem.W.Frag} {W : Wd} {G : Ctx} {te ta tb tc tl : TE} {T U S : Ty} {t u : TT} {b c : Bool} {ts us : List Ty} {tr : TA} {xs ys : List V}
theorem szl {n : Nat} (h : n ≤ 1000) : n ≤ sizeLine := Nat.le_trans h (by decide)
theorem szlt {n : Nat} (h : n < 1000) : n < sizeLine := Nat.lt_of_lt_of_le h (by decide)
/-! ### fields -/
def HasF (K : PySem.W.Frag) (f : Str) (T U : Ty) : Prop := ∀ H v, T.p H v → ∃ a C dx fs x, v = .ref a ∧ H a = some (.ins C dx fs) ∧ Cls K C ∧ NoAttr K C f ∧ fs.lookup f = some x ∧ U.p H x
theorem EV.fld {f : Str} (h : EV W G ta T) (hf : HasF K f T U) : EV W G (tFld K ta f) U := ⟨fun ok fr k => h.run ok fr fun v H1 s1 p => by
  obtain ⟨a, C, dx, fs, x, rfl, e, cl, na, l, q⟩ := hf _ _ p
  exact ⟨a, C, dx, fs, x, rfl, (vis_some e).2, cl, na, l, k x H1 s1 q⟩⟩
/-! ### places -/
theorem EV.ixT {i : Int} {j : Nat} (ha : EV W G ta (Ty.tup ts)) (hb : EV W G tb (tInt i)) (e : i = (j : Int)) (h : ts[j]? = some T) : EV W G (tOp (rIxT K) ta tb) T := ⟨fun ok fr k =>
  ha.run ok fr fun x H1 s1 p1 => hb.run s1.2 (fr.mo s1.1) fun y H2 s2 p2 => by
    obtain ⟨a, vs, rfl, e1, al⟩ := (Ty.tup ts).mo s2.1 p1
    obtain ⟨v, ev, pv⟩ := al.get h
    cases p2
    exact ⟨a, vs, i, v, rfl, rfl, (.inl (rd_vis e1)), by rw [e]; exact atI_nat ev, k v H2 (s1.trans s2) pv⟩⟩
theorem EV.ixL {i : Int} {j : Nat} (ha : EV W G ta (Ty.lst ts)) (hb : EV W G tb (tInt i)) (e : i = (j : Int)) (h : ts[j]? = some T) : EV W G (tOp (rIxL K) ta tb) T := ⟨fun ok fr k =>
  ha.run ok fr fun x H1 s1 p1 => hb.run s1.2 (fr.mo s1.1) fun y H2 s2 p2 => by
    obtain ⟨a, vs, rfl, e1, al⟩ := (Ty.lst ts).mo s2.1 p1
    obtain ⟨v, ev, pv⟩ := al.get h
    cases p2
    exact ⟨a, vs, i, v, rfl, rfl, SqL.of (vis_some e1).2, by rw [e]; exact atI_nat ev, k v H2 (s1.trans s2) pv⟩⟩
/-! ### x in xs -/
theorem RV.inT {neg : Bool} {x : V} (hx : flatV x = true) (ha : xs.all flatV = true) : RV W (rIn K neg) (Ty.is x) (tupF xs) (tBl (if neg then !inV x xs else inV x xs)) := ⟨fun ok px py k => by
  cases px
  obtain ⟨a, vs, rfl, e, al⟩ := py
  rw [al_is al] at e
  exact ⟨a, xs, rfl, .inr ((.inl (rd_vis e))), hx, ha, k _ _ ok.st rfl⟩⟩
theorem RV.inL {neg : Bool} {x : V} (hx : flatV x = true) (ha : xs.all flatV = true) : RV W (rIn K neg) (Ty.is x) (lstF xs) (tBl (if neg then !inV x xs else inV x xs)) := ⟨fun ok px py k => by
  cases px
  obtain ⟨a, vs, rfl, e, al⟩ := py
  rw [al_is al] at e
  exact ⟨a, xs, rfl, .inl (SqL.of (vis_some e).2), hx, ha, k _ _ ok.st rfl⟩⟩
theorem eqV_nn (a b : Nat) : eqV (nV a) (nV b) = decide (a = b) := by
  show ((a : Int) == (b : Int)) = decide (a = b)
  by_cases h : a = b
  · subst h; simp
  · rw [decide_eq_false h]
    have h2 : ¬ (a : Int) = (b : Int) := by omega
    simpa using h2
theorem inV_n (x : Nat) (ns : List Nat) : inV (nV x) (ns.map nV) = decide (x ∈ ns) := by
  unfold inV
  rw [List.any_map]
  induction ns with
  | nil => rfl
  | cons n ns ih =>
    rw [List.any_cons, ih]
    show (eqV (nV n) (nV x) || _) = _
    rw [eqV_nn]
    by_cases h : n = x
    · subst h; simp
    · simp [h, show ¬ x = n from fun e => h e.symm]
theorem inV_o (x : Nat) (ns : List (Option Nat)) : inV (nV x) (ns.map oV) = decide (some x ∈ ns) := by
  unfold inV
  rw [List.any_map]
  induction ns with
  | nil => rfl
  | cons n ns ih =>
    rw [List.any_cons, ih]
    cases n with
    | none => show (false || _) = _; simp
    | some m =>
      show (eqV (nV m) (nV x) || _) = _
      rw [eqV_nn]
      by_cases h : m = x
      · subst h; simp
      · simp [h, show ¬ x = m from fun e => h e.symm]
theorem flat_n (ns : List Nat) : (ns.map nV).all flatV = true := by
  rw [List.all_map]; exact List.all_eq_true.mpr fun _ _ => rfl
theorem flat_o (ns : List (Option Nat)) : (ns.map oV).all flatV = true := by
  rw [List.all_map]; exact List.all_eq_true.mpr fun o _ => by cases o <;> rfl
/-! ### slices -/
theorem EVO.none : EVO W G tNoPart none := ⟨fun ok _ k => k _ ok.st⟩
theorem EVO.some {i : Int} (h : EV W G te (tInt i)) : EVO W G (tPart te) (some i) := ⟨fun ok fr k => h.run ok fr fun v H1 s1 p => ⟨i, p, k H1 s1⟩⟩
def cutT {α : Type} (ts : List α) (lo hi : Option Int) : List α := (ts.drop (HT.sIx ts.length 0 lo)).take (HT.sIx ts.length ts.length hi - HT.sIx ts.length 0 lo)
theorem Al.cut {H : Hp} {ts : List Ty} {vs : List V} (al : Al H ts vs) (lo hi : Option Int) : Al H (cutT ts lo hi) (cutV vs lo hi) := by
  unfold cutT cutV
  rw [al.len]
  exact Al.take _ (Al.drop _ al)
theorem EV.slT {tlo thi : TO} {lo hi : Option Int} (ha : EV W G ta (Ty.tup ts)) (h1 : EVO W G tlo lo) (h2 : EVO W G thi hi) : EV W G (tSl (rSlA K) ta tlo thi) (Ty.tup (cutT ts lo hi)) := ⟨fun ok fr k =>
  ha.run ok fr fun x H1 s1 p1 => h1.run s1.2 (fr.mo s1.1) fun H2 s2 => h2.run s2.2 (fr.mo (s1.trans s2).1) fun H3 s3 => by
    obtain ⟨a, vs, rfl, e1, al⟩ := (Ty.tup ts).mo (s2.trans s3).1 p1
    have s := (s1.trans s2).trans s3
    refine ⟨a, vs, rfl, (.inl (rd_vis e1)), fun hw => ?_, fun _ p hp => ?_⟩
    · refine k _ H3 s ⟨a, vs, rfl, e1, ?_⟩
      have c := al.cut lo hi
      have e2 : cutV vs lo hi = vs := by
        unfold cutV
        rw [hw.1, hw.2]
        simp
      rwa [e2] at c
    · exact k _ _ (s.trans (s3.2.new hp)) ⟨p, _, rfl, s3.2.rd_new hp, (al.cut lo hi).mo (s3.2.new (o := .tup (cutV vs lo hi)) hp).1⟩⟩
theorem cut_to {α : Type} (ts : List α) (p : Nat) : cutT ts none (some (p : Int)) = ts.take p := by
  unfold cutT
  rw [HT.sIx_nat]
  show (ts.drop 0).take (min p ts.length - 0) = ts.take p
  rw [List.drop_zero, Nat.sub_zero]
  by_cases h : p ≤ ts.length
  · rw [Nat.min_eq_left h]
  · rw [Nat.min_eq_right (by omega), List.take_of_length_le (Nat.le_refl _), List.take_of_length_le (by omega)]
theorem cut_from {α : Type} (ts : List α) (p : Nat) : cutT ts (some (p : Int)) none = ts.drop p := by
  unfold cutT
  rw [HT.sIx_nat]
  show (ts.drop (min p ts.length)).take (ts.length - min p ts.length) = ts.drop p
  by_cases h : p ≤ ts.length
  · rw [Nat.min_eq_left h, List.take_of_length_le (by rw [List.length_drop]; omega)]
  · rw [Nat.min_eq_right (by omega), List.drop_of_length_le (Nat.le_refl _), List.drop_of_length_le (by omega)]; simp
/-! ### + of tuples, of lists -/
theorem RV.catT (hl : ts.length + us.length ≤ 1000) : RV W (rCatA K) (Ty.tup ts) (Ty.tup us) (Ty.tup (ts ++ us)) := ⟨fun {x y H Q} ok px py k => by
  obtain ⟨a, vs, rfl, e1, al⟩ := px
  obtain ⟨b, ws, rfl, e2, bl⟩ := py
  refine ⟨a, b, vs, ws, rfl, rfl, (.inl (rd_vis e1)), (.inl (rd_vis e2)), szl (by rw [← al.len, ← bl.len]; exact hl), fun e => ?_, fun _ e => ?_, fun _ _ p hp => ?_⟩
  · subst e
    have : ts = [] := by have := al.len; exact List.length_eq_zero_iff.mp this
    subst this
    exact k _ H ok.st ⟨b, ws, rfl, e2, bl⟩
  · subst e
    have : us = [] := by have := bl.len; exact List.length_eq_zero_iff.mp this
    subst this
    exact k _ H ok.st ⟨a, vs, rfl, e1, by rw [List.append_nil]; exact al⟩
  · exact k _ _ (ok.new hp) ⟨p, _, rfl, ok.rd_new hp, (al.app bl).mo (ok.new (o := .tup (vs ++ ws)) hp).1⟩⟩
theorem RV.cat (hl : ts.length + us.length ≤ 1000) : RV W rCat (Ty.lst ts) (Ty.lst us) (Ty.lst (ts ++ us)) := ⟨fun {x y H Q} ok px py k => by
  obtain ⟨a, vs, rfl, e1, al⟩ := px
  obtain ⟨b, ws, rfl, e2, bl⟩ := py
  refine ⟨a, b, vs, ws, rfl, rfl, (vis_some e1).2, (vis_some e2).2, szl (by rw [← al.len, ← bl.len]; exact hl), fun p hp => ?_⟩
  refine k _ _ (ok.new hp) ⟨p, _, rfl, ?_, (al.app bl).mo (ok.new (o := .lst (vs ++ ws)) hp).1⟩
  rw [ok.v_new hp, upd_same]⟩
/-! ### built-ins -/
def rLenS (K : PySem.W.Frag) : List V → Hp → VK → Prop := fun xs H Q => ∃ p ys, xs = [.ref p] ∧ (SqL K H p ys ∨ SqT K H p ys) ∧ Q (.int ys.length) H
theorem RC.lenT : RC W (rLenS K) [Ty.tup ts] (tN ts.length) := ⟨fun {vs H Q} ok al0 k => by
  obtain ⟨v, rfl, a, vs, e0, e, al⟩ := al1 al0
  · subst e0
    exact ⟨a, vs, rfl, .inr ((.inl (rd_vis e))), k _ _ ok.st (by rw [al.len]; rfl)⟩⟩
theorem RC.lenL : RC W (rLenS K) [Ty.lst ts] (tN ts.length) := ⟨fun {vs H Q} ok al0 k => by
  obtain ⟨v, rfl, a, vs, e0, e, al⟩ := al1 al0
  · subst e0
    exact ⟨a, vs, rfl, .inl (SqL.of (vis_some e).2), k _ _ ok.st (by rw [al.len]; rfl)⟩⟩
theorem RC.sum {ns : List Int} : RC W (rSum K) [lstF (ns.map V.int)] (tInt ns.sum) := ⟨fun {vs H Q} ok al0 k => by
  obtain ⟨v, rfl, a, vs, e0, e, al⟩ := al1 al0
  · subst e0
    rw [al_is al] at e
    exact ⟨a, ns, rfl, SqL.of (vis_some e).2, k _ _ ok.st rfl⟩⟩
theorem RC.all {bs : List Bool} : RC W (rAll K) [lstF (bs.map V.bl)] (tBl (bs.all id)) := ⟨fun {vs H Q} ok al0 k => by
  obtain ⟨v, rfl, a, vs, e0, e, al⟩ := al1 al0
  · subst e0
    rw [al_is al] at e
    exact ⟨a, bs, rfl, SqL.of (vis_some e).2, k _ _ ok.st rfl⟩⟩
def rTupOf (K : PySem.W.Frag) : List V → Hp → VK → Prop := fun xs H Q => ∃ p ys, xs = [.ref p] ∧ ((SqL K H p ys ∧ ∀ l, H l = none → Q (.ref l) (upd H l (.tup ys))) ∨ (SqT K H p ys ∧ Q (.ref p) H))
theorem RC.tupOf : RC W (rTupOf K) [Ty.lst ts] (Ty.tup ts) := ⟨fun {vs H Q} ok al0 k => by
  obtain ⟨v, rfl, a, vs, e0, e, al⟩ := al1 al0
  · subst e0
    refine ⟨a, vs, rfl, .inl ⟨SqL.of (vis_some e).2, fun p hp => ?_⟩⟩
    exact k _ _ (ok.new hp) ⟨p, _, rfl, ok.rd_new hp, al.mo (ok.new (o := .tup vs) hp).1⟩⟩
def rLstOf (K : PySem.W.Frag) : List V → Hp → VK → Prop := fun xs H Q => ∃ p ys, xs = [.ref p] ∧ (SqL K H p ys ∨ SqT K H p ys) ∧ ∀ l, H l = none → Q (.ref l) (upd H l (.lst ys))
theorem RC.lstOfT : RC W (rLstOf K) [Ty.tup ts] (Ty.lst ts) := ⟨fun {vs H Q} ok al0 k => by
  obtain ⟨v, rfl, a, vs, e0, e, al⟩ := al1 al0
  · subst e0
    refine ⟨a, vs, rfl, .inr ((.inl (rd_vis e))), fun p hp => ?_⟩
    refine k _ _ (ok.new hp) ⟨p, _, rfl, ?_, al.mo (ok.new (o := .lst vs) hp).1⟩
    rw [ok.v_new hp, upd_same]⟩
theorem RC.lstOfL : RC W (rLstOf K) [Ty.lst ts] (Ty.lst ts) := ⟨fun {vs H Q} ok al0 k => by
  obtain ⟨v, rfl, a, vs, e0, e, al⟩ := al1 al0
  · subst e0
    refine ⟨a, vs, rfl, .inl (SqL.of (vis_some e).2), fun p hp => ?_⟩
    refine k _ _ (ok.new hp) ⟨p, _, rfl, ?_, al.mo (ok.new (o := .lst vs) hp).1⟩
    rw [ok.v_new hp, upd_same]⟩
theorem RC.max {ns : List Int} {m : Int} (h0 : 0 < ns.length) (hm : ∀ k, k ∈ ns → (∀ y ∈ ns, y ≤ k) → k = m) : RC W (rMax K) [lstF (ns.map V.int)] (tInt m) := ⟨fun {vs H Q} ok al0 k => by
  obtain ⟨v, rfl, a, vs, e0, e, al⟩ := al1 al0
  · subst e0
    rw [al_is al] at e
    exact ⟨a, ns, rfl, SqL.of (vis_some e).2, h0, fun m' h1 h2 => k _ _ ok.st (by rw [hm m' h1 h2]; rfl)⟩⟩
theorem strict_unique : ∀ {xs ys : List Int}, xs.Perm ys → xs.Pairwise (· ≤ ·) → ys.Pairwise (· ≤ ·) → xs = ys := fun h a b =>
  h.eq_of_pairwise (fun x y _ _ h1 h2 => Int.le_antisymm h1 h2) a b
theorem RC.sorted {ns ms : List Int} (h0 : ns.length < 64) (hp : ms.Perm ns) (hs : ms.Pairwise (· ≤ ·)) : RC W (rSorted K) [lstF (ns.map V.int)] (lstF (ms.map V.int)) := ⟨fun {vs H Q} ok al0 k => by
  obtain ⟨v, rfl, a, vs, e0, e, al⟩ := al1 al0
  · subst e0
    rw [al_is al] at e
    refine ⟨a, ns, rfl, SqL.of (vis_some e).2, h0, fun ns' p h1 h2 h3 => ?_⟩
    have e2 : ns' = ms := strict_unique (h1.trans hp.symm) h2 hs
    subst e2
    refine k _ _ (ok.new h3) ⟨p, _, rfl, ?_, is_al⟩
    rw [ok.v_new h3, upd_same]⟩
theorem RC.int {i : Int} : RC W (fun xs H Q => (∃ i, xs = [.int i] ∧ Q (.int i) H) ∨ ∃ k, xs = [.bl k] ∧ Q (.int (if k then 1 else 0)) H) [tInt i] (tInt i) := ⟨fun {vs H Q} ok al k => by
  match vs, al with
  | [v], ⟨e0, _⟩ => cases e0; exact .inl ⟨i, rfl, k _ _ ok.st rfl⟩⟩
theorem RC.intB {b : Bool} : RC W (fun xs H Q => (∃ i, xs = [.int i] ∧ Q (.int i) H) ∨ ∃ k, xs = [.bl k] ∧ Q (.int (if k then 1 else 0)) H) [tBl b] (tInt (if b then 1 else 0)) := ⟨fun {vs H Q} ok al k => by
  match vs, al with
  | [v], ⟨e0, _⟩ => cases e0; exact .inr ⟨b, rfl, k _ _ ok.st rfl⟩⟩
theorem RC.abs {i : Int} : RC W (fun xs H Q => ∃ i, xs = [.int i] ∧ Q (.int (if i < 0 then -i else i)) H) [tInt i] (tInt (if i < 0 then -i else i)) := ⟨fun {vs H Q} ok al k => by
  match vs, al with
  | [v], ⟨e0, _⟩ => cases e0; exact ⟨i, rfl, k _ _ ok.st rfl⟩⟩
/-- isinstance(x, T) -/
def HasTy (K : PySem.W.Frag) (T : Ty) (t : String) : Prop := ∀ H v, T.p H v → TyX K H v (.type t)
theorem RC.isi {c t : String} (h : HasTy K T t) (hb : kitB t c = some b) : RC W (rIsi K) [T, Ty.is (.ty c)] (tBl b) := ⟨fun {vs H Q} ok al k => by
  match vs, al with
  | [v, w], ⟨e0, e1, _⟩ =>
    cases e1
    exact ⟨v, .ty c, .type t, .type c, b, rfl, .ty c, h H v (T.mo (vis_sub _ _) e0), kit_ty hb, k _ _ ok.st rfl⟩⟩
theorem hasTy_int {i : Int} : HasTy K (tInt i) "int" := fun _ _ e => by cases e; exact .base (.int i)
theorem hasTy_bl {b : Bool} : HasTy K (tBl b) "bool" := fun _ _ e => by cases e; exact .base (.bl b)
theorem hasTy_str {s : Str} : HasTy K (tS s) "str" := fun _ _ e => by cases e; exact .base (.str s)
theorem hasTy_tup : HasTy K (Ty.tup ts) "tuple" := fun _ _ ⟨a, vs, e0, e, _⟩ => by
  subst e0
  rcases e with e | ⟨o, e⟩
  · exact .base (.tup e)
  · exact .fTuple e
theorem hasTy_lst : HasTy K (Ty.lst ts) "list" := fun _ _ ⟨a, vs, e0, e, _⟩ => by subst e0; exact .base (.lst e)
end

/-! ## walks -/
structure ItOk (J : It) (xs : List Ty) (g : Hp → Prop) : Prop where
  go : ∀ {h H : Hp} {i : Nat}, g h → Xt h H → i < xs.length → J.go i H
  stop : ∀ {h H : Hp}, g h → Xt h H → J.stop xs.length H
  yld : ∀ {W : Wd} {H H' : Hp} {i : Nat} {x : V} {T : Ty}, W.ok H → g (W.v H) → xs[i]? = some T → J.yld i H x H' → Xt H H' ∧ T.p (W.v H') x
  mo : ∀ {h h' : Hp}, g h → Xt h h' → g h'
structure EVI (W : Wd) (G : Ctx) (wi : TI) (xs : List Ty) : Prop where
  run : ∀ {σ : L2.St} {H : Hp} {Q : It → Hp → Prop}, W.ok H → Fr (W.v H) G σ → (∀ J H' g, W.st H H' → g (W.v H') → ItOk J xs g → Q J H') → wi σ H Q
section
variable {K : PySem.W.Frag} {W : Wd} {G : Ctx} {te ta tb tl : TE} {T U S : Ty} {ts us : List Ty} {tr : TA} {vs : List V}
theorem itOk_list {a : Addr} : ItOk (Itl K a) ts (fun h => ∃ vs, h a = some (.lst vs) ∧ Al h ts vs) where
  go := fun {h H i} ⟨vs, e, al⟩ x hi => by
    have hl : i < vs.length := by rw [← al.len]; exact hi
    exact ⟨vs, vs[i], SqL.of (x.at e notT_l), List.getElem?_eq_getElem hl⟩
  stop := fun ⟨vs, e, al⟩ x => ⟨vs, SqL.of (x.at e notT_l), by rw [al.len]; exact Nat.le_refl _⟩
  yld := fun {W H H' i x T} ok ⟨vs, e, al⟩ hT y => by
    obtain ⟨rfl, hy⟩ := y
    obtain ⟨v, ev, pv⟩ := al.get hT
    have e2 := hy vs (SqL.of (vis_some e).2)
    rw [ev] at e2
    cases e2
    exact ⟨Xt.refl _, pv⟩
  mo := fun ⟨vs, e, al⟩ x => ⟨vs, x.at e notT_l, al.mo x⟩
theorem itOk_tup {a : Addr} : ItOk (Itt K a) ts (fun h => ∃ vs, Rd h a (.tup vs) ∧ Al h ts vs) where
  go := fun {h H i} ⟨vs, e, al⟩ x hi => by
    have hl : i < vs.length := by rw [← al.len]; exact hi
    exact ⟨vs, vs[i], (.inl (x.rdT e)), List.getElem?_eq_getElem hl⟩
  stop := fun ⟨vs, e, al⟩ x => ⟨vs, (.inl (x.rdT e)), by rw [al.len]; exact Nat.le_refl _⟩
  yld := fun {W H H' i x T} ok ⟨vs, e, al⟩ hT y => by
    obtain ⟨rfl, hy⟩ := y
    obtain ⟨v, ev, pv⟩ := al.get hT
    have e2 := hy vs ((.inl (rd_vis e)))
    rw [ev] at e2
    cases e2
    exact ⟨Xt.refl _, pv⟩
  mo := fun ⟨vs, e, al⟩ x => ⟨vs, x.rdT e, al.mo x⟩
theorem itOk_rng {lo n : Nat} : ItOk (Itr (lo : Int) n) ((List.range n).map fun i => tN (lo + i)) (fun _ => True) where
  go := fun _ _ hi => by
    rw [List.length_map, List.length_range] at hi
    exact hi
  stop := fun _ _ => by
    show n ≤ _
    rw [List.length_map, List.length_range]
    exact Nat.le_refl _
  yld := fun {W H H' i x T} _ _ hT y => by
    obtain ⟨rfl, rfl⟩ := y
    rw [List.getElem?_map] at hT
    cases e : (List.range n)[i]? with
    | none => rw [e] at hT; cases hT
    | some j =>
      rw [e] at hT
      obtain ⟨h1, h2⟩ := List.getElem?_eq_some_iff.mp e
      rw [List.getElem_range] at h2
      subst h2
      cases hT
      exact ⟨Xt.refl _, by show V.int _ = V.int _; rw [Int.natCast_add]⟩
  mo := fun _ _ => trivial
theorem itOk_enum {a : Addr} : ItOk (Ite K a) (ts.zipIdx.map fun p => Ty.tup [tN p.2, p.1]) (fun h => ∃ vs, h a = some (.lst vs) ∧ Al h ts vs) where
  go := fun {h H i} ⟨vs, e, al⟩ x hi => by
    have hl : i < vs.length := by rw [List.length_map, List.length_zipIdx] at hi; rw [← al.len]; exact hi
    exact ⟨vs, vs[i], SqL.of (x.at e notT_l), List.getElem?_eq_getElem hl⟩
  stop := fun ⟨vs, e, al⟩ x => ⟨vs, SqL.of (x.at e notT_l), by rw [List.length_map, List.length_zipIdx, al.len]; exact Nat.le_refl _⟩
  yld := fun {W H H' i x T} ok ⟨vs, e, al⟩ hT y => by
    obtain ⟨p, z, rfl, hp, rfl, hy⟩ := y
    rw [List.getElem?_map, List.getElem?_zipIdx] at hT
    cases et : ts[i]? with
    | none => rw [et] at hT; cases hT
    | some U =>
      rw [et] at hT
      cases hT
      obtain ⟨v, ev, pv⟩ := al.get et
      have e2 := hy vs (SqL.of (vis_some e).2)
      rw [ev] at e2
      cases e2
      refine ⟨Xt.new hp, p, [.int (i : Nat), z], rfl, ok.rd_new hp, ?_, U.mo (ok.new (o := .tup [.int (i : Nat), z]) hp).1 pv, trivial⟩
      show V.int _ = V.int _
      rw [Nat.zero_add]
  mo := fun ⟨vs, e, al⟩ x => ⟨vs, x.at e notT_l, al.mo x⟩
theorem EVI.list (h : EV W G tl (Ty.lst ts)) : EVI W G (iList K tl) ts := ⟨fun ok fr k => h.run ok fr fun v H1 s1 p => by
  obtain ⟨a, vs, rfl, e, al⟩ := p
  exact ⟨a, rfl, ⟨vs, SqL.of (vis_some e).2⟩, k _ H1 _ s1 ⟨vs, e, al⟩ itOk_list⟩⟩
theorem EVI.tup (h : EV W G tl (Ty.tup ts)) : EVI W G (iTup K tl) ts := ⟨fun ok fr k => h.run ok fr fun v H1 s1 p => by
  obtain ⟨a, vs, rfl, e, al⟩ := p
  exact ⟨a, rfl, ⟨vs, (.inl (rd_vis e))⟩, k _ H1 _ s1 ⟨vs, e, al⟩ itOk_tup⟩⟩
theorem EVI.rng1 {n : Nat} (h : EVA W G tr [tN n]) (hn : n ≤ 100000) : EVI W G (iRng1 tr) ((List.range n).map tN) := ⟨fun ok fr k => h.run ok fr fun vs H1 s1 p => by
  match vs, p with
  | [v], ⟨e, _⟩ =>
    cases e
    have I := itOk_rng (lo := 0) (n := n)
    have e1 : ((List.range n).map fun i => tN (0 + i)) = (List.range n).map tN := by
      congr 1; funext i; rw [Nat.zero_add]
    rw [e1] at I
    exact ⟨(n : Int), rfl, by omega, by omega, k _ H1 _ s1 trivial (by rw [Int.toNat_natCast]; exact I)⟩⟩
theorem EVI.rng2 {lo hi : Nat} (h : EVA W G tr [tN lo, tN hi]) (hn : lo ≤ 100000 ∧ hi ≤ 100000) : EVI W G (iRng2 tr) ((List.range (hi - lo)).map fun i => tN (lo + i)) := ⟨fun ok fr k => h.run ok fr fun vs H1 s1 p => by
  match vs, p with
  | [v, w], ⟨e, e2, _⟩ =>
    cases e; cases e2
    exact ⟨(lo : Int), (hi : Int), rfl, by omega, k _ H1 _ s1 trivial (by rw [show ((hi : Int) - (lo : Int)).toNat = hi - lo by omega]; exact itOk_rng)⟩⟩
theorem EVI.enum (h : EVA W G tr [Ty.lst ts]) : EVI W G (iEnum K tr) (ts.zipIdx.map fun p => Ty.tup [tN p.2, p.1]) := ⟨fun ok fr k => h.run ok fr fun vs H1 s1 p => by
  obtain ⟨v, rfl, a, vs, e0, e, al⟩ := al1 p
  · subst e0
    exact ⟨a, vs, rfl, SqL.of (vis_some e).2, k _ H1 _ s1 ⟨vs, e, al⟩ itOk_enum⟩⟩
end
theorem EVI.eq {W : Wd} {G : Ctx} {wi : TI} {xs ys : List Ty} (h : EVI W G wi xs) (e : xs = ys) : EVI W G wi ys := e ▸ h
/-! ## targets -/
def GT (g : TG) (T : Ty) (u : Ctx → Ctx) (vs : List Nat) : Prop := ∀ (W : Wd) (H : Hp) (σ : L2.St) (G : Ctx) (x : V) (Q : L2.St → Hp → Prop), Fr (W.v H) G σ → T.p (W.v H) x →
  (∀ σ', Fr (W.v H) (u G) σ' → (∀ τ, σ = L2.wipe τ vs → L2.wipe σ' vs = L2.wipe τ vs) → Q σ' H) → g x σ H Q
theorem GT.name {j : Nat} {T : Ty} {vs : List Nat} (hj : j ∈ vs) : GT (gName j) T (fun G => G.set j (some T)) vs := fun W H σ G x Q fr px k =>
  k _ (fr.set px j) fun τ e => by rw [e, wipe_set hj]
theorem GT.two {K : PySem.W.Frag} {i j : Nat} {T U : Ty} {vs : List Nat} (hi : i ∈ vs) (hj : j ∈ vs) : GT (gTup K 2 (gCons (gName i) (gCons (gName j) gNil))) (Ty.tup [T, U]) (fun G => (G.set i (some T)).set j (some U)) vs := fun W H σ G x Q fr px k => by
  obtain ⟨a, vs, rfl, e, al⟩ := px
  match vs, al with
  | [x, y], al =>
    exact ⟨a, [x, y], rfl, (.inl (rd_vis e)), rfl, x, [y], rfl, y, [], rfl, rfl, k _ ((fr.set al.1 i).set al.2.1 j) fun τ e => by rw [e, wipe_set2 hi hj]⟩
/-! ## comprehensions -/
/-- te gives a new list, hidden -/
structure EVN (W : Wd) (G : Ctx) (te : TE) (ts : List Ty) : Prop where
  run : ∀ {σ : L2.St} {H : Hp} {Q : VK}, W.ok H → Fr (W.v H) G σ → (∀ D acc H', D ∉ W.M → (W.own D (.lst acc) trivial).ok H' → Xt (W.v H) ((W.own D (.lst acc) trivial).v H') → Al ((W.own D (.lst acc) trivial).v H') ts acc → Q (.ref D) H') → te σ H Q
theorem EVN.ev {W : Wd} {G : Ctx} {te : TE} {ts : List Ty} (h : EVN W G te ts) : EV W G te (Ty.lst ts) := ⟨fun okW fr k => h.run okW fr fun D acc H' hD ok x al => by
  refine k _ H' ⟨x.trans own_sub, ok.show_⟩ ⟨D, acc, rfl, ?_, al.mo own_sub⟩
  rw [Wd.v, vis_eq hD]; exact ok.at⟩
theorem EVN.eq {W : Wd} {G : Ctx} {te : TE} {ts us : List Ty} (h : EVN W G te ts) (e : ts = us) : EVN W G te us := e ▸ h
theorem EVN.lcW {W : Wd} {G : Ctx} {wi : TI} {g : TG} {tt : TT} {te : TE} {vs : List Nat} {α : Type} (L : List α) (X : α → Ty) (f : α → Bool) (T : α → Ty) (u : α → Ctx → Ctx)
    (hi : EVI W G wi (L.map X)) (hg : ∀ a ∈ L, GT g (X a) (u a) vs) (ht : ∀ (D : Addr) (o : HO), D ∉ W.M → ∀ a ∈ L, EVT (W.own D o trivial) (u a (wipeC G vs)) tt (f a)) (he : ∀ (D : Addr) (o : HO), D ∉ W.M → ∀ a ∈ L, f a = true → EV (W.own D o trivial) (u a (wipeC G vs)) te (T a))
    (hl : L.length ≤ 999) : EVN W G (tLc wi g tt te vs) ((L.filter f).map T) := ⟨fun {σ H0 Q} okW fr k => hi.run okW fr fun J H1 gd s1 hg1 I => by
  intro D hD
  have hDM := s1.2.nM hD
  let Pv : Nat → Hp → Prop := fun i H => ∃ acc, (W.own D (.lst acc) notT_l).ok H ∧ Xt (W.v H1) ((W.own D (.lst acc) notT_l).v H) ∧ Al ((W.own D (.lst acc) notT_l).v H) (((L.take i).filter f).map T) acc
  have P0 : Pv 0 (upd H1 D (.lst [])) := ⟨[], s1.2.own hD, by rw [own_v s1.2 hD]; exact Xt.refl _, trivial⟩
  refine ⟨fun i m H => m = L.length - i ∧ i ≤ L.length ∧ Pv i H, ⟨L.length, by simp, Nat.zero_le _, P0⟩, ?_⟩
  rintro i m H ⟨rfl, hil, acc, okD, x, al⟩
  have gH := I.mo hg1 x
  by_cases hlt : i < L.length
  · refine .inr ⟨I.go gH (vis_sub _ _) (by rw [List.length_map]; exact hlt), Pv (i + 1), fun H' p => ⟨L.length - (i + 1), by omega, rfl, hlt, p⟩, fun y H' hy => ?_⟩
    have ha : L[i]? = some L[i] := List.getElem?_eq_getElem hlt
    have hm : L[i] ∈ L := List.getElem_mem hlt
    obtain ⟨xH, py⟩ := I.yld okD gH (by rw [List.getElem?_map, ha]; rfl) hy
    have ok' := (okD.pure xH)
    have frw := Fr.wipe (fr.mo (s1.1.trans (x.trans ok'.1))) vs
    refine hg _ hm (W.own D (.lst acc) notT_l) H' _ _ y _ frw py fun σ' fr' hw => ⟨hw σ rfl, ?_⟩
    refine (ht D (.lst acc) hDM _ hm).run ok'.2 fr' fun H3 s3 => ?_
    have etake : (L.take (i + 1)).filter f = (L.take i).filter f ++ (if f L[i] = true then [L[i]] else []) := by
      rw [List.take_succ, ha, List.filter_append]
      show _ ++ List.filter f [L[i]] = _
      rw [List.filter_cons]
      by_cases hf : f L[i] = true
      · rw [if_pos hf, if_pos hf]; rfl
      · rw [if_neg hf, if_neg hf]; rfl
    by_cases hf : f L[i] = true
    · rw [if_pos hf]
      refine (he D (.lst acc) hDM _ hm hf).run s3.2 (fr'.mo s3.1) fun z H4 s4 pz => ?_
      have sAll := (ok'.trans s3).trans s4
      have al4 := al.mo sAll.1
      refine ⟨acc, s4.2.at, szlt ?_, acc ++ [z], s4.2.put hDM, ?_, ?_⟩
      · rw [← al.len, List.length_map]
        have := List.length_filter_le f (L.take i)
        rw [List.length_take] at this
        omega
      · rw [own_put (n := notT_l)]
        exact x.trans sAll.1
      · rw [own_put (n := notT_l), etake, if_pos hf, List.map_append]
        exact al4.app ⟨pz, trivial⟩
    · rw [if_neg hf]
      refine ⟨acc, s3.2, x.trans (ok'.trans s3).1, ?_⟩
      rw [etake, if_neg hf, List.append_nil]
      exact al.mo (ok'.trans s3).1
  · have e : i = L.length := by omega
    subst e
    refine .inl ⟨by have := I.stop gH (vis_sub _ _); rwa [List.length_map] at this, ?_⟩
    rw [List.take_of_length_le (Nat.le_refl _)] at al
    exact k D acc H hDM okD (s1.1.trans x) al⟩
theorem EV.lcW {W : Wd} {G : Ctx} {wi : TI} {g : TG} {tt : TT} {te : TE} {vs : List Nat} {α : Type} (L : List α) (X : α → Ty) (f : α → Bool) (T : α → Ty) (u : α → Ctx → Ctx)
    (hi : EVI W G wi (L.map X)) (hg : ∀ a ∈ L, GT g (X a) (u a) vs) (ht : ∀ (D : Addr) (o : HO), D ∉ W.M → ∀ a ∈ L, EVT (W.own D o trivial) (u a (wipeC G vs)) tt (f a)) (he : ∀ (D : Addr) (o : HO), D ∉ W.M → ∀ a ∈ L, f a = true → EV (W.own D o trivial) (u a (wipeC G vs)) te (T a))
    (hl : L.length ≤ 999) : EV W G (tLc wi g tt te vs) (Ty.lst ((L.filter f).map T)) := (EVN.lcW L X f T u hi hg ht he hl).ev
theorem EV.lc {W : Wd} {G : Ctx} {wi : TI} {g : TG} {tt : TT} {te : TE} {vs : List Nat} {α : Type} (L : List α) (X : α → Ty) (f : α → Bool) (T : α → Ty) (u : α → Ctx → Ctx)
    (hi : EVI W G wi (L.map X)) (hg : ∀ a ∈ L, GT g (X a) (u a) vs) (ht : ∀ W' : Wd, ∀ a ∈ L, EVT W' (u a (wipeC G vs)) tt (f a)) (he : ∀ W' : Wd, ∀ a ∈ L, f a = true → EV W' (u a (wipeC G vs)) te (T a))
    (hl : L.length ≤ 999) : EV W G (tLc wi g tt te vs) (Ty.lst ((L.filter f).map T)) := EV.lcW L X f T u hi hg (fun _ _ _ => ht _) (fun _ _ _ => he _) hl
/-- without a test -/
theorem EVT.yes {W : Wd} {G : Ctx} : EVT W G tYes true := ⟨fun ok _ k => k _ ok.st⟩
theorem EV.lcYW {W : Wd} {G : Ctx} {wi : TI} {g : TG} {te : TE} {vs : List Nat} {α : Type} (L : List α) (X : α → Ty) (T : α → Ty) (u : α → Ctx → Ctx)
    (hi : EVI W G wi (L.map X)) (hg : ∀ a ∈ L, GT g (X a) (u a) vs) (he : ∀ (D : Addr) (o : HO), D ∉ W.M → ∀ a ∈ L, EV (W.own D o trivial) (u a (wipeC G vs)) te (T a))
    (hl : L.length ≤ 999) : EV W G (tLc wi g tYes te vs) (Ty.lst (L.map T)) := by
  have h := EV.lcW L X (fun _ => true) T u hi hg (fun _ _ _ _ _ => EVT.yes) (fun D o hD a ha _ => he D o hD a ha) hl
  rwa [List.filter_eq_self.mpr (fun _ _ => rfl)] at h
theorem EV.lcY {W : Wd} {G : Ctx} {wi : TI} {g : TG} {te : TE} {vs : List Nat} {α : Type} (L : List α) (X : α → Ty) (T : α → Ty) (u : α → Ctx → Ctx)
    (hi : EVI W G wi (L.map X)) (hg : ∀ a ∈ L, GT g (X a) (u a) vs) (he : ∀ W' : Wd, ∀ a ∈ L, EV W' (u a (wipeC G vs)) te (T a))
    (hl : L.length ≤ 999) : EV W G (tLc wi g tYes te vs) (Ty.lst (L.map T)) := by
  have h := EV.lc L X (fun _ => true) T u hi hg (fun _ _ _ => EVT.yes) (fun W' a ha _ => he W' a ha) hl
  rwa [List.filter_eq_self.mpr (fun _ _ => rfl)] at h
theorem EVN.lcYW {W : Wd} {G : Ctx} {wi : TI} {g : TG} {te : TE} {vs : List Nat} {α : Type} (L : List α) (X : α → Ty) (T : α → Ty) (u : α → Ctx → Ctx)
    (hi : EVI W G wi (L.map X)) (hg : ∀ a ∈ L, GT g (X a) (u a) vs) (he : ∀ (D : Addr) (o : HO), D ∉ W.M → ∀ a ∈ L, EV (W.own D o trivial) (u a (wipeC G vs)) te (T a))
    (hl : L.length ≤ 999) : EVN W G (tLc wi g tYes te vs) (L.map T) := by
  have h := EVN.lcW L X (fun _ => true) T u hi hg (fun _ _ _ _ _ => EVT.yes) (fun D o hD a ha _ => he D o hD a ha) hl
  rwa [List.filter_eq_self.mpr (fun _ _ => rfl)] at h
end Fo
namespace Fo
open PySem PySem.Spec PyProof.Rows L2
section
variable {K : PySem.W.Frag} {W : Wd} {ts : List Ty}
theorem RC.isi_ii {i : Int} : RC W (rIsi K) [tInt i, Ty.is (.ty "int")] (tBl true) := RC.isi hasTy_int (by decide +kernel)
theorem RC.isi_ib {i : Int} : RC W (rIsi K) [tInt i, Ty.is (.ty "bool")] (tBl false) := RC.isi hasTy_int (by decide +kernel)
theorem RC.isi_ss {s : Str} : RC W (rIsi K) [tS s, Ty.is (.ty "str")] (tBl true) := RC.isi hasTy_str (by decide +kernel)
theorem RC.isi_tt : RC W (rIsi K) [Ty.tup ts, Ty.is (.ty "tuple")] (tBl true) := RC.isi hasTy_tup (by decide +kernel)
theorem RC.isi_ll : RC W (rIsi K) [Ty.lst ts, Ty.is (.ty "list")] (tBl true) := RC.isi hasTy_lst (by decide +kernel)
end
end Fo
namespace Fo
open PySem PySem.Spec PyProof.Rows L2
section
variable {K : PySem.W.Frag} {W : Wd} {G : Ctx} {ta : TE} {tr : TA} {ts us : List Ty}
theorem RV.oneShl {k : Nat} (h : k ≤ 134217727 := by omega) : RV W (fun x y H Q => ∃ k : Nat, x = .int 1 ∧ y = .int (k : Int) ∧ k ≤ 134217727 ∧ Q (.int (2 ^ k)) H) (tInt 1) (tN k) (tN (2 ^ k)) := ⟨fun ok hx hy q => by
  cases hx; cases hy
  exact ⟨k, rfl, rfl, h, q _ _ ok.st (by show V.int _ = V.int _; rw [Int.natCast_pow]; rfl)⟩⟩
theorem RV.shrN {i k : Nat} : RV W (fun x y H Q => ∃ (i : Int) (k : Nat), x = .int i ∧ y = .int (k : Int) ∧ Q (.int (i / 2 ^ k)) H) (tN i) (tN k) (tN (i / 2 ^ k)) := ⟨fun ok hx hy q => by
  cases hx; cases hy
  exact ⟨(i : Int), k, rfl, rfl, q _ _ ok.st (by show V.int _ = V.int _; rw [Int.natCast_ediv, Int.natCast_pow]; rfl)⟩⟩
theorem RV.odd {n : Nat} : RV W (fun x y H Q => ∃ n : Nat, x = .int (n : Int) ∧ y = .int 1 ∧ Q (.int ((n % 2 : Nat) : Int)) H) (tN n) (tInt 1) (tN (n % 2)) := ⟨fun ok hx hy q => by
  cases hx; cases hy
  exact ⟨n, rfl, rfl, q _ _ ok.st rfl⟩⟩
theorem EV.bits {i : Int} (h : EV W G ta (tInt i)) : EV W G (tBits ta) (tN (Builtin.Int.intBits i)) := ⟨fun ok fr k => h.run ok fr fun v H1 s1 p => ⟨i, p, k _ H1 s1 rfl⟩⟩
/-! zip of two tuples -/
theorem itOk_zipT {a b : Addr} : ItOk (RZ.ItzT K a b) ((ts.zip us).map fun p => Ty.tup [p.1, p.2]) (fun h => (∃ vs, Rd h a (.tup vs) ∧ Al h ts vs) ∧ ∃ vs, Rd h b (.tup vs) ∧ Al h us vs) where
  go := fun {h H i} ⟨⟨vs, e, al⟩, ⟨ws, e', al'⟩⟩ x hi => by
    rw [List.length_map, List.length_zip] at hi
    have h1 : i < vs.length := by rw [← al.len]; omega
    have h2 : i < ws.length := by rw [← al'.len]; omega
    exact ⟨vs, ws, vs[i], ws[i], (.inl (x.rdT e)), (.inl (x.rdT e')), List.getElem?_eq_getElem h1, List.getElem?_eq_getElem h2⟩
  stop := fun ⟨⟨vs, e, al⟩, ⟨ws, e', al'⟩⟩ x => ⟨vs, ws, (.inl (x.rdT e)), (.inl (x.rdT e')), by rw [List.length_map, List.length_zip, ← al.len, ← al'.len]; omega⟩
  yld := fun {W H H' i x T} ok ⟨⟨vs, e, al⟩, ⟨ws, e', al'⟩⟩ hT y => by
    obtain ⟨p, z, z', rfl, hp, rfl, hy, hy'⟩ := y
    rw [List.getElem?_map] at hT
    cases et : (ts.zip us)[i]? with
    | none => rw [et] at hT; cases hT
    | some U =>
      rw [et] at hT
      cases hT
      obtain ⟨h1, h2⟩ := List.getElem?_zip_eq_some.mp et
      obtain ⟨v, ev, pv⟩ := al.get h1
      obtain ⟨v', ev', pv'⟩ := al'.get h2
      have e2 := hy vs ((.inl (rd_vis e)))
      rw [ev] at e2
      cases e2
      have e3 := hy' ws ((.inl (rd_vis e')))
      rw [ev'] at e3
      cases e3
      exact ⟨Xt.new hp, p, [z, z'], rfl, ok.rd_new hp, U.1.mo (ok.new (o := .tup [z, z']) hp).1 pv, U.2.mo (ok.new (o := .tup [z, z']) hp).1 pv', trivial⟩
  mo := fun ⟨⟨vs, e, al⟩, ⟨ws, e', al'⟩⟩ x => ⟨⟨vs, x.rdT e, al.mo x⟩, ⟨ws, x.rdT e', al'.mo x⟩⟩
theorem EVI.zipT (h : EVA W G tr [Ty.tup ts, Ty.tup us]) : EVI W G (RZ.iZipA K tr) ((ts.zip us).map fun p => Ty.tup [p.1, p.2]) := ⟨fun ok fr k => h.run ok fr fun vs H1 s1 p => by
  obtain ⟨v, w, rfl, ⟨a, vs, e0, e, al⟩, ⟨b, ws, e1, e', al'⟩⟩ := al2 p
  · subst e0
    subst e1
    exact ⟨a, b, vs, ws, rfl, .inr ⟨(.inl (rd_vis e)), (.inl (rd_vis e')), k _ H1 _ s1 ⟨⟨vs, e, al⟩, ⟨ws, e', al'⟩⟩ itOk_zipT⟩⟩⟩
end
end Fo
namespace Fo
open PySem PySem.Spec PyProof.Rows L2
abbrev tO (o : Option Nat) : Ty := Ty.is (oV o)
section
variable {K : PySem.W.Frag} {W : Wd} {G : Ctx} {ta : TE} {tr : TA} {ts us : List Ty} {α : Type}
theorem sumF_eq (L : List α) (f : α → Nat) : (L.map fun a => ((f a : Nat) : Int)).sum = (((L.map f).sum : Nat) : Int) := by
  induction L with
  | nil => rfl
  | cons a l ih => rw [List.map_cons, List.map_cons, List.sum_cons, List.sum_cons, ih, Int.natCast_add]
theorem RC.sumF {L : List α} {f : α → Nat} : RC W (rSum K) [Ty.lst (L.map fun a => tN (f a))] (tN (L.map f).sum) := by
  have h := RC.sum (W := W) (K := K) (ns := L.map fun a => ((f a : Nat) : Int))
  unfold lstF at h
  rw [sumF_eq, List.map_map, List.map_map] at h
  exact h
theorem RC.allF {L : List α} {f : α → Bool} : RC W (rAll K) [Ty.lst (L.map fun a => tBl (f a))] (tBl (L.all f)) := by
  have h := RC.all (W := W) (K := K) (bs := L.map f)
  unfold lstF at h
  rw [List.map_map, List.map_map, List.all_map] at h
  exact h
theorem RV.inTN {neg : Bool} {x : Nat} {ns : List Nat} : RV W (rIn K neg) (tN x) (Ty.tup (ns.map tN)) (tBl (if neg then !decide (x ∈ ns) else decide (x ∈ ns))) := by
  have h := RV.inT (W := W) (K := K) (neg := neg) (x := nV x) (xs := ns.map nV) rfl (flat_n ns)
  rw [inV_n] at h
  unfold tupF at h
  rw [List.map_map] at h
  exact h
theorem RV.inLN {neg : Bool} {x : Nat} {ns : List Nat} : RV W (rIn K neg) (tN x) (Ty.lst (ns.map tN)) (tBl (if neg then !decide (x ∈ ns) else decide (x ∈ ns))) := by
  have h := RV.inL (W := W) (K := K) (neg := neg) (x := nV x) (xs := ns.map nV) rfl (flat_n ns)
  rw [inV_n] at h
  unfold lstF at h
  rw [List.map_map] at h
  exact h
theorem RV.inTO {neg : Bool} {x : Nat} {ns : List (Option Nat)} : RV W (rIn K neg) (tN x) (Ty.tup (ns.map tO)) (tBl (if neg then !decide (some x ∈ ns) else decide (some x ∈ ns))) := by
  have h := RV.inT (W := W) (K := K) (neg := neg) (x := nV x) (xs := ns.map oV) rfl (flat_o ns)
  rw [inV_o] at h
  unfold tupF at h
  rw [List.map_map] at h
  exact h
end
end Fo
set_option Elab.async false
set_option linter.all false
set_option maxRecDepth 100000
set_option maxHeartbeats 2000000
/-! enumerate over a tuple. -/
namespace Fo
open PySem PySem.Spec PyProof.Rows L2
open AutoSeq1 (wpAny_loadPart')
theorem draws_tuple {prog : Program} {w : World} {A : Around} (hh : A.handled = none) (it l : Addr) (hne : l ≠ it) (items : Array Value) :
    Draws prog w A it [it, l] items.size (fun i v => items[i]? = some v) (fun i h => h.IsTupleIter it l i ∧ h.IsTuple l items) where
  live := fun _ _ st => by obtain ⟨⟨o, ho, _⟩, _⟩ := st; exact ⟨o, ho⟩
  frame := fun i h h' st hk => by
    obtain ⟨⟨o, ho, r⟩, ⟨q, hq, r'⟩⟩ := st
    exact ⟨⟨o, hk it (by simp) o ho, r⟩, ⟨q, hk l (by simp) q hq, r'⟩⟩
  item := fun i s Q E hi st hQ => by
    have hx : items[i]? = some items[i] := by simp [hi]
    exact RZ.nextOf_tuple_item st.1 st.2 hx fun h' hit' hs' => hQ _ h' s.toks hx ⟨hit', st.2.extBut hs'.extBut hne⟩ hs'
  done := fun s Q E st hE => RZ.nextOf_tuple_end hh st.1 st.2 (by simp) hE
theorem meets_enumT (l : Addr) (items : Array Value) (n : Nat) (dct : Option Addr) (sl : Array (Option Value)) :
    Meets (Builtin.«enumerate.__new__» ⟨[.type "enumerate", .ref l], []⟩) (fun _ R s => s.heap.get? l = some { cls := .type "tuple", dict := dct, data := .seq items n, slots := sl } ∧
      R (.ok (.ret (.ref (s.heap.push { cls := .type "tuple_iterator", data := .fields #[.ref l, .int 0 0] }).objs.size)))
        { s with heap := (s.heap.push { cls := .type "tuple_iterator", data := .fields #[.ref l, .int 0 0] }).push { cls := .type "enumerate", data := .fields #[.none, .bool false, .ref s.heap.objs.size, rawInt 0, .none, .none] } }) :=
  .of_wp fun prog w A R s h => by
    obtain ⟨hp, g, d, tk, os⟩ := s
    obtain ⟨hl, h⟩ := h
    have hsub := sub_enumerate
    have hL : Heap.IsTuple (Shared.heap ⟨hp, g, d, tk, os⟩) l items := ⟨_, hl, rfl, n, rfl⟩
    wp_walk using wpAny_loadPart' hl
    refine wpAny_stack_any fun st => wpAny_pure ?_
    split
    · rename_i c _ _ _ _ _
      cases (c == Value.type "enumerate")
      all_goals
        wp_walk using wpAny_loadPart' hl, wpAny_pyIter_tuple hL
        exact ⟨_, rfl, h⟩
    · wp_walk using wpAny_loadPart' hl, wpAny_pyIter_tuple hL
      exact ⟨_, rfl, h⟩
section
variable {prog : Program} {w : World} {A : Around} {E : Value → Shared → Prop} {s : Shared}
theorem call_enumT {l : Addr} {items : Array Value} {Q : Value → Shared → Prop} (hL : s.heap.IsTuple l items)
    (h : ∀ h', IsEnum h' (s.heap.objs.size + 1) s.heap.objs.size 0 .none → h'.IsTupleIter s.heap.objs.size l 0 →
      (∀ b o, s.heap.get? b = some o → h'.get? b = some o) → Q (.ref (s.heap.objs.size + 1)) { s with heap := h' }) :
    wpAny (model prog w) A (call (.type "enumerate") [.ref l]) Q E s := by
  obtain ⟨⟨c, dct, dt, sl⟩, hl, hc, n, hd⟩ := hL
  have hc' : c = .type "tuple" := hc
  have hd' : dt = .seq items n := hd
  subst hc' hd'
  refine callType_new F.called_enumerate (by decide) (F.typeCall_enumerate_1 _) (F.newCall_enumerate_1 _) (fun obj => F.args_object_init_2 obj _) F.entry_enumerate_new
    (meets_enumT l items n dct sl) ⟨hl, ?_⟩
  let h1 := s.heap.push { cls := .type "tuple_iterator", data := .fields #[.ref l, .int 0 0] }
  have hz : h1.objs.size = s.heap.objs.size + 1 := Heap.size_push ..
  show _ ∧ _
  let ob : Obj := { cls := .type "enumerate", data := .fields #[.none, .bool false, .ref s.heap.objs.size, rawInt 0, .none, .none] }
  have he : (h1.push ob).get? h1.objs.size = some ob := Heap.get?_push_size h1 rfl
  have e1 : Q (.ref h1.objs.size) { s with heap := h1.push ob } := by
    rw [hz]
    rw [hz] at he
    exact h _ he ⟨_, Heap.get?_push_of_some _ (Heap.get?_push_size _ rfl), rfl, rfl⟩ fun b o x => Heap.get?_push_of_some _ (Heap.get?_push_of_some _ x)
  exact ⟨⟨_, he, rfl⟩, e1⟩
end
/-- the tuple at a, each item in a new pair with its number -/
def IteT (K : PySem.W.Frag) (a : Addr) : It :=
  ⟨fun i H => ∃ (xs : List V) (x : V), SqT K H a xs ∧ xs[i]? = some x, fun i H v H' => ∃ T x, v = .ref T ∧ H T = none ∧ H' = upd H T (.tup [.int (i : Nat), x]) ∧ ∀ xs, SqT K H a xs → xs[i]? = some x,
    fun i H => ∃ xs : List V, SqT K H a xs ∧ xs.length = i⟩
theorem it_ne {h : Heap} {a it : Addr} {i : Nat} {items : Array Value} (p : h.IsTuple a items) (q : h.IsTupleIter it a i) : a ≠ it := by
  rintro rfl
  obtain ⟨o, ho, hc, _⟩ := p
  obtain ⟨o', ho', hc', _⟩ := q
  rw [ho] at ho'
  cases ho'
  rw [hc] at hc'
  exact absurd hc' (by decide)
theorem turn_enumT {P : Program} {w : World} {K : PySem.W.Frag} {elts : List Expr} {kk : Nat} {tpos : Pos} (a e it : Addr) :
    Turn P w K (.Tuple elts kk tpos) (IteT K a) [e, it] e (fun i h => (∃ old, IsEnum h e it ((i : Nat) : Int) old) ∧ h.IsTupleIter it a i ∧ e ≠ it) where
  mem := by simp
  obj := fun i h st b hb => by
    obtain ⟨⟨old, he⟩, ⟨o, ho, hc, hd⟩, _⟩ := st
    rcases (by simpa using hb : b = e ∨ b = it) with rfl | rfl
    · exact ⟨_, he, fun v q => nomatch q⟩
    · exact ⟨o, ho, fun v q => by rw [hd] at q; cases q⟩
  keep := fun i h h' st k => by
    obtain ⟨⟨old, he⟩, ⟨o, ho, r⟩, hne⟩ := st
    exact ⟨⟨old, k e (by simp) _ he⟩, ⟨o, k it (by simp) o ho, r⟩, hne⟩
  item := by
    intro X hP hw hK hc i pins s σ H E I hf st hg
    subst hP hw hK
    obtain ⟨⟨old, he⟩, hit, hne⟩ := st
    obtain ⟨xs, x, hq, hx⟩ := hg
    obtain ⟨its, rv, p, hz⟩ := I.tuple hq
    have p' : s.heap.IsTuple a its.toArray := p
    obtain ⟨u, hu, ru⟩ := rv.get hx
    have hel : e < s.heap.objs.size := Heap.lt_size he
    have hil : it < s.heap.objs.size := by obtain ⟨_, q, _⟩ := hit; exact Heap.lt_size q
    have hea : e ≠ a := by
      rintro rfl
      obtain ⟨o, ho, hcl, _⟩ := p'
      rw [he] at ho
      cases ho
      exact absurd (show Value.type "enumerate" = Value.type "tuple" from hcl) (by decide)
    have hlt : i < its.toArray.size := by
      have q := (List.getElem?_eq_some_iff.mp hu).1
      simpa using q
    refine wpAny_pyNext_enum_itemD (draws_tuple (A := X.A.in1) (I.ok.hd hc) it a (it_ne p' hit) its.toArray) he ⟨hit, p'⟩ hlt hne (by simp [hne, hea]) fun y h' tk hy ho hst hT hsz hk => ?_
    have ey : y = u := by
      rw [List.getElem?_toArray, hu] at hy
      exact (Option.some.inj hy).symm
    subst ey
    refine ⟨_, rfl, wpAny_letOwnedTupleGo_enum (s := { s with heap := h', toks := tk + 1 }) ho fun h'' he' sb => ?_⟩
    have hT2 : h''.get? s.heap.objs.size = some { cls := .type "tuple", data := .seq #[.int i tk, y] } := (sb.2 _ (Nat.ne_of_gt hel)).trans hT
    have new : ObjOk X.prog X.w (upd H s.heap.objs.size (.tup [.int (i : Nat), x])) h'' s.heap.objs.size (.tup [.int (i : Nat), x]) :=
      ⟨by show 2 ≤ sizeLine; decide, [.int i tk, y], .cons ⟨_, rfl⟩ (.cons ru .nil), ⟨_, hT2, rfl, _, rfl⟩⟩
    have I1 : Inv X pins σ (upd H s.heap.objs.size (.tup [.int (i : Nat), x])) { s with heap := h'', toks := tk + 1 } :=
      I.turnedNew (ch := [e, it]) (fun b ob hb q => by
        have hbe : b ≠ e := fun z => hb (by simp [z])
        have hbi : b ≠ it := fun z => hb (by simp [z])
        exact (sb.2 b hbe).trans (hk b ob hbe hbi q)) hf (Nat.le_refl _) new
    refine ⟨.ref s.heap.objs.size, _, I1, rfl, ⟨_, x, rfl, I.hok.fresh (Nat.le_refl _), rfl, fun ys hy => by rw [I.tuple_inj hy hq]; exact hx⟩, ⟨⟨y, ?_⟩, ?_, hne⟩, fun b hb => ?_⟩
    · have e1 : ((i + 1 : Nat) : Int) = (i : Int) + 1 := by omega
      rw [e1]
      exact he'
    · obtain ⟨o, ho2, r⟩ := hst.1
      exact ⟨o, (sb.2 it (Ne.symm hne)).trans ho2, r⟩
    · have hb' : b < s.heap.objs.size := by
        rcases (by simpa using hb : b = e ∨ b = it) with rfl | rfl
        · exact hel
        · exact hil
      rw [upd_ne (Nat.ne_of_lt hb')]
      exact (hf b hb).1
  done := by
    intro X hP hw hK hc i pins s σ H E I hf st hg
    subst hP hw hK
    obtain ⟨⟨old, he⟩, hit, hne⟩ := st
    obtain ⟨xs, hq, hx⟩ := hg
    obtain ⟨its, rv, p, hz⟩ := I.tuple hq
    have p' : s.heap.IsTuple a its.toArray := p
    obtain ⟨f0, f1, f2, f3, f4, f5⟩ := hf it (by simp)
    have hl := rv.length
    have hi : i = its.toArray.size := by
      have q : its.toArray.size = its.length := by simp
      omega
    subst hi
    exact wpAny_pyNext_enum_endD (draws_tuple (A := X.A.in1) (I.ok.hd hc) it a (it_ne p' hit) its.toArray) he ⟨hit, p'⟩ fun h' eb => ⟨rfl, I.turned (t' := s.toks) (fun b o hb q => eb b o hb q) f0 f1 f3 f4 f5⟩
  self := fun A i s Q E st h => by
    obtain ⟨⟨_, he⟩, _⟩ := st
    exact wpAny_pyIter_enum he h
def iEnumT (K : PySem.W.Frag) (ta : TA) : TI := fun σ H R => ta σ H fun vs H1 => ∃ a xs, vs = [.ref a] ∧ SqT K H1 a xs ∧ R (IteT K a) H1
theorem pi_enumT {X : Cx} {e : Expr} {ta : TA} {p pos tpos : Pos} {elts : List Expr} {kk : Nat} (hg : Gl X "enumerate") (hm : X.mg "enumerate" = none) (ha : PA X [e] ta) (hs : starEach [e] X.env = [(false, eval e X.env)] := by rfl) :
    PI X (.Tuple elts kk tpos) (.Call (.Name "enumerate" p) [e] [] pos) (iEnumT X.K ta) := by
  refine ⟨fun pins s σ H R I h => ?_⟩
  refine Call_ (ld_blt I hg hm boot_enumerate (PyProof.Rows.callWith_type1 (thn (ha.run pos pins s σ H _ I h) fun us s1 ⟨vs, H1, I1, r1, q1⟩ => ?_) hs rfl))
  obtain ⟨a, xs, ex, hq, q⟩ := q1
  subst ex
  cases r1 with
  | cons r rr =>
    cases rr
    cases r
    obtain ⟨its, rv, p', hz⟩ := I1.tuple hq
    refine call_enumT (show s1.heap.IsTuple a its.toArray from p') fun h' he hit hk => wpAny_pyIter_enum he ?_
    have I2 : Inv X pins σ H1 { s1 with heap := h' } := I1.kept (t' := s1.toks) hk
    refine ⟨s1.heap.objs.size + 1, [s1.heap.objs.size + 1, s1.heap.objs.size], _, _, H1, rfl, I2, turn_enumT a (s1.heap.objs.size + 1) s1.heap.objs.size, ⟨⟨.none, he⟩, hit, Nat.succ_ne_self _⟩, fun b hb => ?_, q⟩
    have hle : s1.heap.objs.size ≤ b := by
      rcases (by simpa using hb : b = s1.heap.objs.size + 1 ∨ b = s1.heap.objs.size) with rfl | rfl
      · exact Nat.le_add_right _ _
      · exact Nat.le_refl _
    exact I1.fpOk hle (I1.hok.fresh hle)
end Fo
set_option Elab.async false
set_option linter.all false
set_option maxRecDepth 100000
set_option maxHeartbeats 2000000
/-! {a tuple: x}; a tuple * 1. -/
namespace Fo
open PySem PySem.Spec PyProof.Rows L2
open AutoSeq1 (wpAny_loadPart')
/-- {k: v}, k a tuple of ints and texts -/
def tDisp1T (tk tv : TE) : TE := fun σ H Q => ∀ p, H p = none → tk σ (upd H p (.dT [])) fun x H1 => tv σ H1 fun y H2 => H2 p = some (.dT []) ∧ ∃ b k, x = .ref b ∧ H2 b = some (.tup (k.map kV)) ∧ Q (.ref p) (upd H2 p (.dT [(k, y)]))
theorem pe_disp1T {X : Cx} {pos : Pos} {ke ve : Expr} {tk tv : TE} (hu : X.A.units + 1 < cLine) (hk : PE X ke tk) (hv : PE X ve tv) : PE X (.Dict [some ke] [ve] pos) (tDisp1T tk tv) := by
  refine ⟨fun pins s σ H Q I q => ?_⟩
  have hn := I.hok.fresh (Nat.le_refl s.heap.objs.size)
  have I1 := I.laid (a := s.heap.objs.size) (o := .dT []) (h' := s.heap.push { cls := .type "dict", data := .dict #[] }) (t' := s.toks) (fun _ _ q => Heap.get?_push_of_some _ q) (Nat.le_refl _) (dt_empty s.heap I.big)
  rw [arm_eval_Dict, zip_pairTrees [some ke] [ve] X.env pos rfl rfl, dictDisplay_pairs (pairTrees [some ke] [ve] X.env pos) (by intro e; have := congrArg List.length e; rw [pairTrees_length _ _ _ _ rfl rfl] at this; cases this) (by rw [pairTrees_length _ _ _ _ rfl rfl]; exact Nat.le_of_ble_eq_true rfl)]
  refine wpAny_bind (wpAny_standAt (wpAny_bind (wpAny_subDictH (knd := tupleKind (mixKind X.prog X.w)) (Q := fun d s' => wpAny (model X.prog X.w) X.A (pure (Value.ref d)) (EP X pins σ Q) X.xe s') (by first | exact hu | exact Nat.lt_of_succ_lt hu) (by rw [pairTrees_length _ _ _ _ rfl rfl]; exact Nat.le_of_ble_eq_true rfl) ?_)))
  refine pairTrees_cons_walk (thn (hk.run pins _ σ _ _ I1 (q _ hn)) fun u s1 ⟨x, H1, I2, rx, q1⟩ => thn (hv.run pins s1 σ H1 _ I2 q1) fun w2 s2 ⟨y, H2, I3, ry, e, b, k, ex, eb, q2⟩ => pairTrees_nil_walk ?_)
  subst ex
  cases (show u = Value.ref b from rx)
  obtain ⟨z, hd, xs, rel, dd⟩ := dt_of I3.hok e
  have hxs : xs = [] := by
    cases rel
    rfl
  subst hxs
  refine ⟨[(k, b, w2)], ⟨rfl, rfl, key_of I3.hok eb, trivial⟩, dd, fun h' tk' dd' hs => wpAny_pure ⟨.ref s.heap.objs.size, _, ?_, rfl, q2⟩⟩
  obtain ⟨ob, es, ep, hq, h2, h3, h4, _, h5⟩ := dd'
  have hw := d_write (t' := tk') I3 (by rw [e]; exact True.intro) hs ⟨ob, hq⟩ (ob := .dT [(k, y)]) ⟨by show 1 ≤ sizeLine; decide, hd, _, ((rel.put k eb ry).keeps fun c ys ec => ?_), ob, es, ep, hq, h2, h3, h4, h5⟩
  · exact hw
  · rw [upd_ne (ne_of ec e (fun z => nomatch z))]
    exact ec
/-- a tuple * 1 is the tuple -/
def rRep1 (K : PySem.W.Frag) : R2 := fun x y H Q => ∃ l xs, x = .ref l ∧ y = .int 1 ∧ SqT K H l xs ∧ xs ≠ [] ∧ xs.length ≤ 1000 ∧ Q (.ref l) H
theorem tuple_mul1 (l : Addr) (items : Array Value) (n : Nat) (dd : Option Addr) (sl : Array (Option Value)) (u : Tok) (h0 : items.isEmpty = false) :
    Meets (Builtin.«tuple.__mul__» ⟨[.ref l, .int 1 u], []⟩) (fun _ R s => s.heap.get? l = some { cls := .type "tuple", dict := dd, data := .seq items n, slots := sl } ∧ R (.ok (.ret (Value.ref l))) s) :=
  .of_wp fun prog w A R s h => by
    obtain ⟨hp, g, d, tk, os⟩ := s
    obtain ⟨hl, h⟩ := h
    have f1 := AutoSeq1.idx_int
    wp_walk using wpAny_loadPart' hl
    all_goals first
      | exact ⟨_, rfl, h⟩
      | (refine wpAny_ite_true (decide_eq_true (by simp)) ?_; wp_walk using wpAny_loadPart' hl; exact ⟨_, rfl, h⟩)
      | (refine wpAny_ite_false (decide_eq_false (by decide)) ?_; wp_walk using wpAny_loadPart' hl; exact ⟨_, rfl, h⟩)
theorem op_rep1 {X : Cx} : OpR X (binaryOp .Mult) (rRep1 X.K) := by
  intro pins s σ H x y v u Q I rx ry h
  obtain ⟨l, xs, rfl, rfl, hT, hne, hz, q⟩ := h
  cases rx
  obtain ⟨t, rfl⟩ := ry
  obtain ⟨its, r, ⟨⟨cls, dd, data, sl⟩, ho, hc, n, hd⟩, hs⟩ := I.tuple hT
  simp only at hc hd
  subst hc hd
  have hi : its.toArray.isEmpty = false := by
    cases its with
    | nil => exact absurd (List.eq_nil_of_length_eq_zero r.length) hne
    | cons a b => rfl
  refine wpAny_binaryOp_repeat_ref (T := "tuple") (U := "int") (by decide) ⟨_, ho, rfl⟩ (fun s' => typeIs_int s' 1 t) noFill_tuple_mul F.fills_int_mul F.slot_int_rmul repeat_tuple F.slot_int_index.lookup
    (call_meets F.slot_int_rmul (typeIs_int s 1 t) F.entry_int_rmul (F.args_int_rmul_2 _ _) (int_rmul_tuple 1 t l its.toArray n dd sl)
      ⟨ho, rfl, ⟨_, ho, rfl⟩, call_meets F.slot_tuple_mul ⟨_, ho, rfl⟩ F.entry_tuple_mul (F.args_tuple_mul_2 _ _) (tuple_mul1 l its.toArray n dd sl t hi) ⟨ho, ?_⟩⟩)
  exact ⟨.ref l, H, I, rfl, q⟩
end Fo
set_option Elab.async false
set_option linter.all false
set_option maxRecDepth 100000
set_option maxHeartbeats 4000000
/-! Sets of ints made of a list; their length; tuple.index. -/
namespace Fo
open PySem PySem.Spec PyProof.Rows L2
abbrev obS (w : World) : Obj := { cls := .type "set", dict := none, data := .set #[] 0 (.fresh 0 0 (!w.params.followText "set-order")) }
section
variable {P : Program} {w : World} {A : Around} {E : Value → Shared → Prop} {s : Shared}
theorem call_set_lstI {l : Addr} {items : Array Value} (ns : List Int) {Q : Value → Shared → Prop} (hh : A.handled = none) (hl : s.heap.IsList l items) (hit : IntsAre items.toList ns) (hb : ns.length + 1 < scanBound)
    (h : ∀ (h' : Heap) (tk c : Nat), SetR w h' s.heap.objs.size (fun j => decide (j ∈ ns)) c → c ≤ ns.length → (∀ b o, s.heap.get? b = some o → h'.get? b = some o) → Q (.ref s.heap.objs.size) { s with heap := h', toks := tk }) :
    wpAny (model P w) A (call (.type "set") [.ref l]) Q E s := by
  have hisz : items.size = ns.length := by
    have q := IntsAre.length hit
    rw [Array.length_toList] at q
    exact q
  obtain ⟨c, tl, hmro⟩ := F.called_set.mro
  have hmade := F.called_set.made
  have hsub := F.called_set.sub
  refine wpAny_call (codeAny_of_tree ?_)
  show wpAny _ _ (callAny (.type "set") _) _ _ _
  refine wpAny_pure ⟨Code.quiet_builtin _ (by decide +kernel), codeAny_builtin F.entry_type_call ?_⟩
  rw [Around.under_plain (weight_type_call_type "set" [.ref l] []) rfl]
  have h1 := F.called_set.notType
  have h2 := F.called_set.canCreate
  have hct := F.typeCall_set_1 (.ref l)
  repeat (any_goals (first | assumption | wp_step))

  refine codeAny_mono (code_set_led1 (.ref l) (E := E) (Q₁ := fun obj s₁ => obj = .ref s.heap.objs.size ∧ s₁ = { s with heap := s.heap.push (obS w) }) ⟨rfl, rfl⟩) fun r s₁ hr => ?_
  cases r with
  | error e => exact hr
  | ok fl =>
    cases fl with
    | ret obj =>
      obtain ⟨rfl, rfl⟩ := hr
      have hS : (s.heap.push (obS w)).get? s.heap.objs.size = some (obS w) := Heap.get?_push_size _ rfl
      have hT : Shared.TypeIs { s with heap := s.heap.push (obS w) } (.ref s.heap.objs.size) "set" := ⟨_, hS, rfl⟩
      have hli := F.called_set.init.lookup
      have hbi := F.called_set.init.bind (.ref s.heap.objs.size)
      repeat (any_goals (first | assumption | wp_step))

      refine codeAny_mono (codeAny_call_builtin (R := wants (fun r s₂ => r = .none ∧ ∃ h' tk c, s₂ = { s with heap := h', toks := tk } ∧ SetR w h' s.heap.objs.size (fun j => decide (j ∈ ns)) c ∧ c ≤ ns.length ∧
          (∀ b o, s.heap.get? b = some o → h'.get? b = some o)) E) F.called_set.init.plain F.entry_set_init (check_set_init_1 hT ?_)) fun r₂ s₂ hr₂ => ?_
      · obtain ⟨ol, hol, hcl, nl, hdl⟩ := hl
        obtain ⟨ocls, odict, odata, oslots⟩ := ol
        simp only at hcl hdl
        subst hcl; subst hdl
        have hol' : (s.heap.push (obS w)).get? l = some { cls := .type "list", dict := odict, data := .seq items nl, slots := oslots } := Heap.get?_push_of_some _ hol
        have hsls := F.sub_list_set
        have hslf := F.sub_list_frozenset
        have hne : (Value.type "list" == Value.type "dict") = false := by decide
        have hl1 : (s.heap.push (obS w)).IsList l items := ⟨_, hol', rfl, nl, rfl⟩
        unfold Builtin.«set.__init__» noKeywords Builtin.Frozenset.updateFrom
        generalize hPI : pyIter = PI
        wp_walk
        subst hPI

        refine wpAny_pyIter_list hl1 ?_
        refine wpAny_bind (wpAny_runValue ?_)
        have hlS : l < s.heap.objs.size := Heap.lt_size hol
        have hh3 : A.in1.in1.in1.handled = none := by simp [hh]
        have hz1 : (s.heap.push (obS w)).objs.size = s.heap.objs.size + 1 := Heap.size_push ..
        have hneI : l ≠ (s.heap.push (obS w)).objs.size := by
          rw [Heap.size_push]; exact Nat.ne_of_lt (Nat.lt_succ_of_lt hlS)
        have hSf : s.heap.objs.size ∉ [(s.heap.push (obS w)).objs.size, l] := by
          rw [Heap.size_push]; simp only [List.mem_cons, List.mem_singleton, List.not_mem_nil, or_false, not_or]
          exact ⟨Nat.ne_of_lt (Nat.lt_succ_self _), Nat.ne_of_gt hlS⟩
        have hval : ∀ (i : Nat) (v : Value), items[i]? = some v → ∃ k t, ns[i]? = some k ∧ v = .int k t := fun i v hv => by
          have hi : i < ns.length := by rw [← hisz]; exact (Array.getElem?_eq_some_iff.mp hv).1
          obtain ⟨t, e⟩ := PyProof.Rows.IntsAre.int_at hit i v (by rw [Array.getElem?_toList]; exact hv)
          refine ⟨ns[i], t, List.getElem?_eq_getElem hi, ?_⟩
          rw [e, List.getD_eq_getElem?_getD, List.getElem?_eq_getElem hi] <;> rfl
        refine set_update_ints ((Walks.list hh3 _ l hneI items).toS) s.heap.objs.size
          hSf ns hisz hb hval (items.size - 0) 0 _ (by omega) (Nat.zero_le _)
          ⟨⟨_, Heap.get?_push_size _ rfl, rfl, rfl⟩, (hl1.push _)⟩ ?hS0 ?hR
        case hS0 =>
          have hget : ((s.heap.push (obS w)).push { cls := .type "list_iterator", data := .fields #[.ref l, .int 0 0] }).get? s.heap.objs.size
              = some (obS w) := Heap.get?_push_of_some _ hS
          exact ⟨0, Nat.le_refl 0, setR_new_at hget⟩
        case hR =>
          intro s' c' hm hc' hS'
          obtain ⟨h', g2, d', tk', os'⟩ := s'
          have eg : g2 = s.gens := hm.gens
          have ed : d' = s.drawn := hm.drawn
          have eo : os' = s.os := hm.os
          subst eg; subst ed; subst eo
          show wpAny _ _ _ _ _ _
          refine wpAny_pure ?_
          show wpAny _ _ (ret Value.none) _ _ _
          rw [hisz] at hc'
          refine wpAny_pure ⟨rfl, h', tk', c', rfl, hS', hc', fun b o e => ?_⟩
          have hb0 : b < s.heap.objs.size := Heap.lt_size e
          have hb1 : b ≠ s.heap.objs.size := Nat.ne_of_lt hb0
          have hb2 : b ≠ (s.heap.push (obS w)).objs.size := by
            rw [Heap.size_push]; exact Nat.ne_of_lt (Nat.lt_succ_of_lt hb0)
          exact hm.heap b o (by simp only [List.mem_cons, List.mem_singleton, List.not_mem_nil, or_false, not_or]; exact ⟨hb1, hb2⟩) (Heap.get?_push_of_some _ (Heap.get?_push_of_some _ e))

      · cases r₂ with
        | error e => exact hr₂
        | ok fl₂ =>
          cases fl₂ with
          | ret r =>
            obtain ⟨rfl, h', tk, c', rfl, hS', hc', hk'⟩ := hr₂
            repeat (any_goals (first | assumption | wp_step))
            exact h _ _ _ hS' hc' hk'
          | _ => exact hr₂.elim
    | _ => exact hr.elim

end
end Fo
set_option Elab.async false
set_option linter.all false
set_option maxRecDepth 100000
set_option maxHeartbeats 2000000
/-! set(list), set(tuple) of ints as values; len of a set; t.index(n). -/
namespace Fo
open PySem PySem.Spec PyProof.Rows L2
/-- n is the number of the members -/
def Card (S : Int → Bool) (n : Nat) : Prop := ∃ ks : List Int, ks.Nodup ∧ ks.length = n ∧ ∀ k, S k = true ↔ k ∈ ks
theorem card_of {w : World} {h : Heap} {a : Addr} {S : Int → Bool} {n : Nat} (R : SetR w h a S n) : Card S n := by
  obtain ⟨o, es, ep, t, _, _, _, _, hn, hk, _, _, hs, _⟩ := R
  exact ⟨es.toList.map L2.keyOf, hn, by rw [List.length_map, Array.length_toList]; exact hs, hk⟩
def rSetI (K : PySem.W.Frag) (w : World) : List V → Hp → VK → Prop := fun vs H Q => ∃ (l : Addr) (ns : List Int), vs = [.ref l] ∧ (SqL K H l (ns.map V.int) ∨ SqT K H l (ns.map V.int)) ∧ ns.length ≤ 100 ∧
  ∀ p c, H p = none → c ≤ ns.length → Card (fun j => decide (j ∈ ns)) c → Q (.ref p) (upd H p (SetO w p (fun j => decide (j ∈ ns)) c))
section
variable {X : Cx}
theorem cr_setI (hc : X.calm = true) : CallR X (.type "set") (rSetI X.K X.w) := by
  intro pins s σ H vs us Q I r h
  obtain ⟨l, ns, rfl, hq, hn, q⟩ := h
  obtain ⟨u, rfl, hu⟩ := vals1 r
  cases hu
  have fin : ∀ (h' : Heap) (tk c : Nat), SetR X.w h' s.heap.objs.size (fun j => decide (j ∈ ns)) c → c ≤ ns.length → (∀ b o, s.heap.get? b = some o → h'.get? b = some o) → EP X pins σ Q (.ref s.heap.objs.size) { s with heap := h', toks := tk } :=
    fun h' tk c R hc' hk => ⟨.ref s.heap.objs.size, _, I.laid (t' := tk) hk (Nat.le_refl _) (setO_new R), rfl, q _ c (I.hok.fresh (Nat.le_refl _)) hc' (card_of R)⟩
  have hb : ns.length + 1 < scanBound := by unfold scanBound; omega
  rcases hq with hq | hq
  · obtain ⟨its, rv, p, hz⟩ := I.list hq
    exact call_set_lstI ns (I.ok.hd hc) p.isList (by simpa using RZ.intsAre_vals rv) hb fin
  · obtain ⟨its, rv, p, hz⟩ := I.tuple hq
    exact call_set_tupI ns (I.ok.hd hc) (show s.heap.IsTuple l its.toArray from p) (by simpa using RZ.intsAre_vals rv) hb fin
def rLenSet (w : World) : List V → Hp → VK → Prop := fun vs H Q => ∃ (a : Addr) (S : Int → Bool) (n : Nat), vs = [.ref a] ∧ H a = some (SetO w a S n) ∧ n ≤ 1000 ∧ Q (.int (n : Int)) H
theorem cr_lenSet : CallR X (.builtin "len") (rLenSet X.w) := by
  intro pins s σ H vs us Q I r h
  obtain ⟨a, S, n, rfl, ha, hn, q⟩ := h
  obtain ⟨u, rfl, hu⟩ := vals1 r
  cases hu
  obtain ⟨o, es, ep, t, ho, hex, hd, _, _, _, _, hf, hs, _⟩ := setO_get I ha
  exact call_len_set ho hex hd hf (by rw [hs]; omega) ⟨.int (n : Int), H, I.tok _, ⟨_, by rw [hs]⟩, q⟩
/-- t.index(n), the first place -/
theorem mt_tindex : MtR X "tuple.index" (fun x xs H Q => ∃ p, ∃ ys : List Int, ∃ z j, x = .ref p ∧ xs = [.int z] ∧ SqT X.K H p (ys.map V.int) ∧ ys[j]? = some z ∧ (∀ m, m < j → ys[m]? ≠ some z) ∧ Q (.int (j : Nat)) H) := by
  intro pins s σ H x xs v us Q I rx rs h
  obtain ⟨p, ys, z, j, rfl, rfl, hq, hy, hno, q⟩ := h
  cases rx
  obtain ⟨u, rfl, t, rfl⟩ := vals1 rs
  obtain ⟨its, r, pl, hz⟩ := I.tuple hq
  obtain ⟨⟨cls, dd, dt, sl⟩, ho, hc, n, hd⟩ := pl
  simp only at hc hd
  subst hc
  subst hd
  have hl : its.toArray.size = ys.length := by rw [List.size_toArray, ← r.length, List.length_map]
  have hj : j < its.toArray.size := by rw [hl]; exact (List.getElem?_eq_some_iff.mp hy).1
  have at' : ∀ (m : Nat) (hm : m < its.toArray.size), ∃ y t', ys[m]? = some y ∧ its.toArray[m] = Value.int y t' := fun m hm => by
    have hm' : m < ys.length := by rw [← hl]; exact hm
    obtain ⟨w, hw, t', hw'⟩ := r.get (i := m) (x := .int ys[m]) (by simp [hm'])
    refine ⟨ys[m], t', List.getElem?_eq_getElem hm', ?_⟩
    have e := (List.getElem?_eq_some_iff.mp hw).2
    rw [← hw', ← e]
    simp
  have hflat : (ys.map V.int).all flatV = true := by
    rw [List.all_map]; exact List.all_eq_true.mpr fun _ _ => rfl
  refine call_meets PySem.F.slot_tuple_index ⟨_, ho, rfl⟩ PySem.F.entry_tuple_index (PySem.F.args_tuple_index_2 _ _) (TI.tuple_indexAt p its.toArray n dd sl (.int z t) (eqU (.int z)) j hj ?_ ?_)
    ⟨ho, fun w hw => mem_eqAt (x := .int z) ⟨t, rfl⟩ rfl r hflat w (by simpa using hw), ⟨.int (j : Nat), H, I.tok _, ⟨_, rfl⟩, q⟩⟩
  · obtain ⟨y, t', h1, h2⟩ := at' j hj
    rw [hy] at h1
    cases h1
    rw [h2]
    show (z == z) = true
    exact beq_self_eq_true z
  · intro m hm hmj
    obtain ⟨y, t', h1, h2⟩ := at' m hm
    rw [h2]
    show (y == z) = false
    exact beq_eq_false_iff_ne.mpr fun e => hno m hmj (e ▸ h1)
def rTIx (K : PySem.W.Frag) : V → List V → Hp → VK → Prop := fun x xs H Q => ∃ p, ∃ ys : List Int, ∃ z j, x = .ref p ∧ xs = [.int z] ∧ SqT K H p (ys.map V.int) ∧ ys[j]? = some z ∧ (∀ m, m < j → ys[m]? ≠ some z) ∧ Q (.int (j : Nat)) H
def tTIx (K : PySem.W.Frag) (to : TE) (t : TA) : TE := fun σ H Q => to σ H fun x H1 => (∃ p ys o, x = V.ref p ∧ H1 p = some (.frz o (.tup ys)) ∧ o.dict = none) ∧ t σ H1 fun xs H2 => rTIx K x xs H2 Q
variable {o e : Expr} {es : List Expr} {to : TE} {t : TA} {apos cpos : Pos}
theorem pe_tindex (ho : PE X o to) (ha : PA X (e :: es) t)
    (hbase : attributeBase o "index" X.env (eval o X.env) = eval o X.env := by rfl)
    (hfew : ((backTo cpos (starEach (e :: es) X.env)).all (fun x => !x.1) && (backToKw cpos (keywordEach [] X.env)).all (fun x => x.1.isSome)
      && decide ((e :: es).length + ([] : List Keyword).length + (if ([] : List Keyword).isEmpty then 0 else 1) < 30)) = true := by rfl)
    (hline : (apos.endLine == cpos.line) = true := by rfl) (hs : starEach (e :: es) X.env = (false, eval e X.env) :: starEach es X.env := by rfl) (hplain : (backTo cpos (starEach es X.env)).any (·.1) = false := by rfl) :
    PE X (.Call (.Attribute o "index" apos) (e :: es) [] cpos) (tTIx X.K to t) := by
  refine ⟨fun pins s σ H Q I h => ?_⟩
  refine wpAny_Call_method_late hbase hfew hline rfl (thn (ho.run pins s σ H _ I h) fun v s1 ⟨x, H1, I1, r1, ty, q1⟩ => ?_)
  obtain ⟨a, ys, o1, rfl, hka, hdn⟩ := ty
  cases r1
  obtain ⟨hob, _, its, _, ob, hob2, hcl, hdat⟩ := I1.hok a _ hka
  rw [hob] at hob2
  cases hob2
  have hdict : ∀ b, Value.ref a = .ref b → ∃ ob, s1.heap.get? b = some ob ∧ ob.dict = none := fun b e => by
    cases e
    exact ⟨_, hob, hdn⟩
  refine ⟨"tuple", "tuple.index", F.plainAttrs_tuple, F.slot_tuple_index, F.type_tuple_index, ⟨_, hob, hcl⟩, hdict, ?_⟩
  have hA := ha.run cpos pins s1 σ H1 _ I1 q1
  rw [hs] at hA ⊢
  refine Calls.callWith_builtin (by show (false || (backTo cpos (starEach es X.env)).any (·.1)) = false; rw [hplain] <;> rfl) (Calls.evalArgs_plain ?_)
  exact thn hA fun us s2 ⟨vs, H2, I2, r2, q2⟩ => mt_tindex pins s2 σ H2 (.ref a) vs (.ref a) us Q I2 rfl r2 q2
/-- a new tuple whose object is known -/
def tTupZ (t : TA) : TE := fun σ H Q => t σ H fun xs H1 => xs.length ≤ sizeLine ∧ ∀ p o, H1 p = none → o.dict = none → Q (.ref p) (upd H1 p (.frz o (.tup xs)))
theorem pe_tupZ {es : List Expr} {t : TA} {pos : Pos} {x1} (h : PA X es t) : PE X (.Tuple es x1 pos) (tTupZ t) := by
  refine ⟨fun pins s σ H Q I hq => ?_⟩
  refine wpAny_Tuple_spliced (thn (h.run pos pins s σ H _ I hq) fun us s1 ⟨xs, H1, I1, r, z, q⟩ => ⟨by rw [← r.length]; exact z, ?_⟩)
  have hf : H1 s1.heap.objs.size = none := I1.hok.fresh (Nat.le_refl _)
  exact ⟨.ref s1.heap.objs.size, _, I1.laid (o := .frz { cls := .type "tuple", data := .seq us.toArray } (.tup xs)) (t' := s1.toks) (fun b u e => Heap.get?_push_of_some _ e) (Nat.le_refl _)
    ⟨Heap.get?_push_size _ rfl, z, us, r, ⟨_, Heap.get?_push_size _ rfl, rfl, _, rfl⟩⟩, rfl, q _ _ hf rfl⟩
/-- t + u, the new one's object known -/
def rCatZ (K : PySem.W.Frag) : R2 := fun x y H Q => ∃ a b xs ys, x = .ref a ∧ y = .ref b ∧ SqT K H a xs ∧ SqT K H b ys ∧ xs.length + ys.length ≤ sizeLine ∧ (xs = [] → Q (.ref b) H) ∧ ys ≠ [] ∧
  (xs ≠ [] → ∀ p o, H p = none → o.dict = none → Q (.ref p) (upd H p (.frz o (.tup (xs ++ ys)))))
theorem op_catZ : OpR X (binaryOp .Add) (rCatZ X.K) := by
  intro pins s σ H x y v u Q I rx ry h
  obtain ⟨a, b, xs, ys, rfl, rfl, ha, hb, hz, q0, hy, q2⟩ := h
  cases rx
  cases ry
  obtain ⟨its, r1, p1, _⟩ := I.tuple ha
  obtain ⟨its2, r2, p2, _⟩ := I.tuple hb
  by_cases hx : xs = []
  · subst hx
    cases r1
    exact cat_tup0 p1 p2 ⟨.ref b, H, I, rfl, q0 rfl⟩
  · refine HT.cat_tup p1 p2 (fun z => hx (r1.nil_iff.mp z)) (fun z => absurd (r2.nil_iff.mp z) hy) (fun z => ?_) (by rw [← r1.length, ← r2.length]; exact hz)
    refine ⟨.ref s.heap.objs.size, _, I.laid (o := .frz { cls := .type "tuple", data := .seq (its ++ its2).toArray } (.tup (xs ++ ys))) (t' := s.toks) (fun b ob q => Heap.get?_push_of_some _ q) (Nat.le_refl _) ?_, rfl, q2 hx _ _ (I.hok.fresh (Nat.le_refl _)) rfl⟩
    exact ⟨Heap.get?_push_size _ rfl, by rw [List.length_append]; exact hz, _, r1.append r2, ⟨_, Heap.get?_push_size _ rfl, rfl, _, rfl⟩⟩
end
end Fo
set_option Elab.async false
set_option linter.all false
set_option maxRecDepth 100000
set_option maxHeartbeats 2000000
/-! == and != of instances by an own __eq__. -/
namespace Fo
open PySem PySem.Spec PyProof.Rows L2
open PySem.W (InstAt findIn isFn notFirst Looks looks_findIn looks_subIn looks_mroIn ifBound_K cmp_K subIn)
section
variable {prog : Program} {w : World} {A : Around} {E : Value → Shared → Prop} {s : Shared} {K : PySem.W.Frag} {h₀ : Heap} {x C f : Addr} {ox : Obj} {od : Option Obj} {b tb : Value}
theorem ne_bind (self : Value) : bindSpecial (.builtin "object.__ne__") self = pure (.builtin "object.__ne__", [self]) :=
  (Slot.of (T := "object") (name := "__ne__") (owner := "object") (n := "__ne__") (by rw [typeLookup_type, builtinLookup_eq_fast]; kernel_rfl) (by decide +kernel) (by decide +kernel) (by decide +kernel)
    (.inl (by decide +kernel)) (by rw [isSubtype_type]; kernel_rfl)).bind self
theorem ifBound_ne {M : Model} {args : List Value} {Q : Option Value → Shared → Prop} (X : K.In s.heap) (I : InstAt s.heap x ox C od) (hs : findIn K (.ref C) "__ne__" = some (some (.builtin "object.__ne__")))
    (h : wpAny M A (call (.builtin "object.__ne__") (.ref x :: args)) (fun v => Q (some v)) E s) : wpAny M A (callSpecialIfBound? (.ref x) "__ne__" args) Q E s := by
  simp only [callSpecialIfBound?, bindSpecialIfBound?]
  refine wpAny_holding (wpAny_bind (wpAny_bind (wpAny_bind (I.type.here ((looks_findIn X hs).here ?_)))))
  refine wpAny_bind (wpAny_askSetting (wpAny_ite ?_))
  have fin : wpAny M A (call (.builtin "object.__ne__") ([.ref x] ++ args) >>= fun v => pure (some v)) Q E s := wpAny_bind (wpAny_mono h (fun v s' h' => wpAny_pure h') fun _ _ h' => h')
  have bnd : Looks M s.heap (bindSpecial (.builtin "object.__ne__") (.ref x)) (.builtin "object.__ne__", [.ref x]) := Looks.of_pure (ne_bind _)
  split
  · exact wpAny_bind (bnd.here (wpAny_pure (by exact fin)))
  · exact wpAny_tryCatch (wpAny_bind (bnd.here (wpAny_pure (by exact fin))))
theorem ne_body {Q : Fin → Shared → Prop} (hu : A.units < cLine) (X : K.In s.heap) (I : InstAt s.heap x ox C od) (hs : findIn K (.ref C) "__eq__" = some (some (.ref f))) (hf : isFn K (.ref f) = true)
    (h : wpAny (model prog w) A (call (.ref f) [.ref x, b]) (fun v s' => ∃ c, v = .bool c ∧ Q (.done (.ret (.bool (!c)))) s') E s) : wpAny (model prog w) A (Builtin.«object.__ne__» ⟨[.ref x, b], []⟩) Q E s := by
  unfold Builtin.«object.__ne__»
  repeat (first
    | with_reducible refine wpAny_cRoomFor hu ?_
    | (refine wpAny_bind (m := callSpecialIfBound? (.ref x) (Str.ofString "__eq__") [b])
        (ifBound_K X I hs hf (wpAny_mono h (fun r s' hr => by
          obtain ⟨c, rfl, hq⟩ := hr
          repeat (first | exact hq | exact wpAny_pure hq | exact wpAny_truthy_bool hq | (refine wpAny_bind (m := truthy (.bool _)) (wpAny_truthy_bool ?_)) | wp_step)) fun _ _ e => e)))
    | wp_step)
theorem ne_K {Q : Value → Shared → Prop} (hu : A.units + 1 < cLine) (X : K.In s.heap) (I : InstAt s.heap x ox C od) (hb : Looks (model prog w) s.heap (typeOf b) tb) (hn : notFirst K C tb = true)
    (hs : findIn K (.ref C) "__eq__" = some (some (.ref f))) (hne : findIn K (.ref C) "__ne__" = some (some (.builtin "object.__ne__"))) (hf : isFn K (.ref f) = true) (hm : PySem.W.mroIn K C (.type "object") = some true)
    (h : wpAny (model prog w) A.in1 (call (.ref f) [.ref x, b]) (fun v s' => ∃ c, v = .bool c ∧ Q (.bool (!c)) s') E s) : wpAny (model prog w) A (richCompare .NotEq (.ref x) b) Q E s := by

  have one : wpAny (model prog w) A (tryCompare (.ref x) "__ne__" b) (fun r s' => ∃ v, r = some v ∧ Q v s') E s := by
    unfold tryCompare
    refine wpAny_bind (ifBound_ne X I hne (wpAny_call (codeAny_call_builtin (by decide +kernel) F.cmpEntry_ne (PySem.W.check_slot F.cmpKind_ne F.cmpSplit_ne ?_ (F.cmpArgs_ne _ _) (ne_body (A := A.in1) hu X I hs hf (wpAny_mono h (fun v s' hv => ?_) fun _ _ e => e))))))
    · exact I.type.andThen (looks_mroIn X hm)
    · obtain ⟨c, rfl, hq⟩ := hv
      first
        | exact ⟨c, rfl, wpAny_pure ⟨_, rfl, hq⟩⟩
        | exact ⟨_, rfl, wpAny_pure ⟨_, rfl, hq⟩⟩
  unfold richCompare
  simp only [oneThing_ref]
  refine wpAny_holding (wpAny_bind (wpAny_cRoomFor (Nat.lt_of_succ_lt hu) ?_))
  rw [cmpInfo_NotEq]
  dsimp only
  refine wpAny_bind (I.type.here (wpAny_bind (hb.here ?_)))
  split
  · rename_i q
    have e : subIn K tb (.ref C) = some false := by
      rcases Bool.or_eq_true_iff.mp hn with e | e
      · rw [beq_iff_eq.mp e] at q; simp at q
      · exact beq_iff_eq.mp e
    refine wpAny_bind ((looks_subIn X e).here ?_)
    simp only [Bool.false_eq_true, if_false]
    refine wpAny_bind (wpAny_mono one (fun r s' z => ?_) fun _ _ e => e)
    obtain ⟨v, rfl, hq⟩ := z
    exact wpAny_pure hq
  · refine wpAny_bind (wpAny_pure ?_)
    simp only [Bool.false_eq_true, if_false]
    refine wpAny_bind (wpAny_mono one (fun r s' z => ?_) fun _ _ e => e)
    obtain ⟨v, rfl, hq⟩ := z
    exact wpAny_pure hq
end
end Fo
namespace Fo
open PySem PySem.Spec PyProof.Rows L2
/-- the own == of the class at C (neg: its !=), y an instance of any own class that does not go first -/
def rOwnEq (K : PySem.W.Frag) (C : Addr) (neg : Bool) (sp : Sp) : R2 := fun x y H Q => ∃ a b dx dy fs gs C2, x = .ref a ∧ y = .ref b ∧ H a = some (.ins C dx fs) ∧ H b = some (.ins C2 dy gs) ∧ PySem.W.notFirst K C (.ref C2) = true ∧
  sp [x, y] H (fun v H' => ∃ c, v = .bl c ∧ Q (.bl (if neg then !c else c)) H') E0
section
variable {X : Cx} {n : Nat} {C f : Addr} {fd : FuncData} {ps : List Str} {sp : Sp}
theorem run_own {A : Around} {pins : List (Addr × Obj)} {s : Shared} {σ : L2.St} {H : Hp} {a b : Addr} {Q : V → Hp → Prop} (F : FnOk X.prog X.w X.K X.mg X.base CX0 n f fd ps sp) (hb : Binds X.K fd ps []) (hr : Room n A) (he : Env0 X.prog X.w X.K X.mg X.base A X.stack s H)
    (I : Inv X pins σ H s) (hsp : sp [.ref a, .ref b] H Q E0) : wpAny (model X.prog X.w) A (call (.ref f) [.ref a, .ref b]) (fun u s' => ∃ v H', Inv X pins σ H' s' ∧ RelV v u ∧ Q v H') X.xe s := by
  have hl := F.len _ _ _ _ hsp
  have r2 : Vals [V.ref a, V.ref b] [Value.ref a, Value.ref b] := .cons rfl (.cons rfl .nil)
  refine wpAny_call (codeAny_mono (F.run A X.stack s H ⟨[.ref a, .ref b], []⟩ [.ref a, .ref b] [.ref a, .ref b] _ E0 hr he (by
    have := hb s [.ref a, .ref b] I.kIn (by simpa using hl)
    simpa using this) r2 hsp) fun r s' hq => ?_)
  cases r with
  | error e => exact False.elim hq
  | ok fl =>
    cases fl with
    | ret w =>
      obtain ⟨z, H', I', rz, ez⟩ := I.after hq
      exact ⟨z, H', I', rz, ez⟩
    | next => exact False.elim hq
    | brk => exact False.elim hq
    | cont => exact False.elim hq
theorem op_ownEq (F : FnOk X.prog X.w X.K X.mg X.base CX0 n f fd ps sp) (hs : PySem.W.findIn X.K (.ref C) "__eq__" = some (some (.ref f))) (hf : PySem.W.isFn X.K (.ref f) = true) (hb : Binds X.K fd ps []) (hr : Room n X.A) :
    OpR X (compareOp .Eq) (rOwnEq X.K C false sp) := by
  intro pins s σ H x y v u Q I rx ry h
  obtain ⟨a, b, dx, dy, fs, gs, C2, rfl, rfl, ha, hb', hn, hsp⟩ := h
  cases rx
  cases ry
  obtain ⟨mA, J, _⟩ := ins_get I.hok ha
  obtain ⟨mB, J', _⟩ := ins_get I.hok hb'
  obtain ⟨od, J, _⟩ := J.look
  obtain ⟨od', J', _⟩ := J'.look
  obtain ⟨m, hF⟩ := I.fr
  show wpAny (model X.prog X.w) X.A (richCompare .Eq (.ref a) (.ref b)) (EP X pins σ Q) X.xe s
  refine PySem.W.cmp_K (op := .Eq) (tb := .ref C2) hr.units0 hF I.ok.mod.kin J J'.type hn hs hf ?_
  refine wpAny_mono (run_own F hb hr I.env0 I hsp) (fun u' s' q => ?_) fun _ _ e => e
  obtain ⟨v', H', I', rv, c, rfl, q⟩ := q
  cases rv
  exact ⟨.bl c, H', I', rfl, q⟩
theorem op_ownNe (F : FnOk X.prog X.w X.K X.mg X.base CX0 n f fd ps sp) (hs : PySem.W.findIn X.K (.ref C) "__eq__" = some (some (.ref f))) (hne : PySem.W.findIn X.K (.ref C) "__ne__" = some (some (.builtin "object.__ne__")))
    (hm : PySem.W.mroIn X.K C (.type "object") = some true) (hf : PySem.W.isFn X.K (.ref f) = true) (hb : Binds X.K fd ps []) (hr : Room (n + 1) X.A) : OpR X (compareOp .NotEq) (rOwnEq X.K C true sp) := by
  intro pins s σ H x y v u Q I rx ry h
  obtain ⟨a, b, dx, dy, fs, gs, C2, rfl, rfl, ha, hb', hn, hsp⟩ := h
  cases rx
  cases ry
  obtain ⟨mA, J, _⟩ := ins_get I.hok ha
  obtain ⟨mB, J', _⟩ := ins_get I.hok hb'
  obtain ⟨od, J, _⟩ := J.look
  obtain ⟨od', J', _⟩ := J'.look
  show wpAny (model X.prog X.w) X.A (richCompare .NotEq (.ref a) (.ref b)) (EP X pins σ Q) X.xe s
  refine ne_K (tb := .ref C2) (by have := hr.units; omega) I.kIn J J'.type hn hs hne hf hm ?_
  refine wpAny_mono (run_own F hb hr.in1 I.env0.in1 I hsp) (fun u' s' q => ?_) fun _ _ e => e
  obtain ⟨v', H', I', rv, c, rfl, q⟩ := q
  cases rv
  exact ⟨c, rfl, .bl (!c), H', I', rfl, q⟩
end
end Fo
set_option Elab.async false
set_option linter.all false
set_option maxRecDepth 100000
/-! What the top has written. Printed by gentp.py. -/
namespace Fo
open PySem PySem.Spec PyProof.Rows L2
abbrev s_is_integer : Stmt := topS 11
abbrev n_is_integer : List Str := ["thing"]
abbrev p_is_integer : List Str := ["thing"]
theorem sc_is_integer : FnScope n_is_integer p_is_integer (defScope s_is_integer) := ⟨rfl, rfl, rfl, by decide +kernel, rfl, by decide +kernel, by decide +kernel⟩
abbrev s_is_within : Stmt := topS 12
abbrev n_is_within : List Str := ["thing", "least", "most"]
abbrev p_is_within : List Str := ["thing", "least", "most"]
theorem sc_is_within : FnScope n_is_within p_is_within (defScope s_is_within) := ⟨rfl, rfl, rfl, by decide +kernel, rfl, by decide +kernel, by decide +kernel⟩
abbrev s_is_pair : Stmt := topS 13
abbrev n_is_pair : List Str := ["thing"]
abbrev p_is_pair : List Str := ["thing"]
theorem sc_is_pair : FnScope n_is_pair p_is_pair (defScope s_is_pair) := ⟨rfl, rfl, rfl, by decide +kernel, rfl, by decide +kernel, by decide +kernel⟩
abbrev s_are_ascending : Stmt := topS 14
abbrev n_are_ascending : List Str := ["things", "one", "other"]
abbrev p_are_ascending : List Str := ["things"]
theorem sc_are_ascending : FnScope n_are_ascending p_are_ascending (defScope s_are_ascending) := ⟨rfl, rfl, rfl, by decide +kernel, rfl, by decide +kernel, by decide +kernel⟩
abbrev s_is_lot_of : Stmt := topS 15
abbrev n_is_lot_of : List Str := ["thing", "many", "one"]
abbrev p_is_lot_of : List Str := ["thing", "many"]
theorem sc_is_lot_of : FnScope n_is_lot_of p_is_lot_of (defScope s_is_lot_of) := ⟨rfl, rfl, rfl, by decide +kernel, rfl, by decide +kernel, by decide +kernel⟩
abbrev s_Matching_init : Stmt := inClass (topS 17) 0
abbrev n_Matching_init : List Str := ["self", "rows", "person"]
abbrev p_Matching_init : List Str := ["self", "rows"]
theorem sc_Matching_init : FnScope n_Matching_init p_Matching_init (defScope s_Matching_init) := ⟨rfl, rfl, rfl, by decide +kernel, rfl, by decide +kernel, by decide +kernel⟩
abbrev s_Matching_seat : Stmt := inClass (topS 17) 1
abbrev n_Matching_seat : List Str := ["self", "person", "came", "waiting", "here", "thing"]
abbrev p_Matching_seat : List Str := ["self", "person"]
theorem sc_Matching_seat : FnScope n_Matching_seat p_Matching_seat (defScope s_Matching_seat) := ⟨rfl, rfl, rfl, by decide +kernel, rfl, by decide +kernel, by decide +kernel⟩
abbrev s_Matching_hand_on : Stmt := inClass (topS 17) 2
abbrev n_Matching_hand_on : List Str := ["self", "thing", "came", "person", "here", "elder"]
abbrev p_Matching_hand_on : List Str := ["self", "thing", "came", "person"]
theorem sc_Matching_hand_on : FnScope n_Matching_hand_on p_Matching_hand_on (defScope s_Matching_hand_on) := ⟨rfl, rfl, rfl, by decide +kernel, rfl, by decide +kernel, by decide +kernel⟩
abbrev s_can_be_dealt : Stmt := topS 18
abbrev n_can_be_dealt : List Str := ["rows"]
abbrev p_can_be_dealt : List Str := ["rows"]
theorem sc_can_be_dealt : FnScope n_can_be_dealt p_can_be_dealt (defScope s_can_be_dealt) := ⟨rfl, rfl, rfl, by decide +kernel, rfl, by decide +kernel, by decide +kernel⟩
abbrev s_check_stuck : Stmt := topS 19
abbrev n_check_stuck : List Str := ["table"]
abbrev p_check_stuck : List Str := ["table"]
theorem sc_check_stuck : FnScope n_check_stuck p_check_stuck (defScope s_check_stuck) := ⟨rfl, rfl, rfl, by decide +kernel, rfl, by decide +kernel, by decide +kernel⟩
abbrev s_Table_init : Stmt := inClass (topS 22) 0
abbrev n_Table_init : List Str := ["self", "rows", "person", "row"]
abbrev p_Table_init : List Str := ["self", "rows"]
theorem sc_Table_init : FnScope n_Table_init p_Table_init (defScope s_Table_init) := ⟨rfl, rfl, rfl, by decide +kernel, rfl, by decide +kernel, by decide +kernel⟩
abbrev s_Table_keep : Stmt := inClass (topS 22) 1
abbrev n_Table_keep : List Str := ["self", "rows"]
abbrev p_Table_keep : List Str := ["self", "rows"]
theorem sc_Table_keep : FnScope n_Table_keep p_Table_keep (defScope s_Table_keep) := ⟨rfl, rfl, rfl, by decide +kernel, rfl, by decide +kernel, by decide +kernel⟩
abbrev s_Table_eq : Stmt := inClass (topS 22) 2
abbrev n_Table_eq : List Str := ["self", "other"]
abbrev p_Table_eq : List Str := ["self", "other"]
theorem sc_Table_eq : FnScope n_Table_eq p_Table_eq (defScope s_Table_eq) := ⟨rfl, rfl, rfl, by decide +kernel, rfl, by decide +kernel, by decide +kernel⟩
abbrev s_RawTable_init : Stmt := inClass (topS 23) 0
abbrev n_RawTable_init : List Str := ["self", "rows"]
abbrev p_RawTable_init : List Str := ["self", "rows"]
theorem sc_RawTable_init : FnScope n_RawTable_init p_RawTable_init (defScope s_RawTable_init) := ⟨rfl, rfl, rfl, by decide +kernel, rfl, by decide +kernel, by decide +kernel⟩
abbrev s_is_person : Stmt := topS 24
abbrev n_is_person : List Str := ["table", "thing"]
abbrev p_is_person : List Str := ["table", "thing"]
theorem sc_is_person : FnScope n_is_person p_is_person (defScope s_is_person) := ⟨rfl, rfl, rfl, by decide +kernel, rfl, by decide +kernel, by decide +kernel⟩
abbrev s_check_person : Stmt := topS 25
abbrev n_check_person : List Str := ["table", "thing"]
abbrev p_check_person : List Str := ["table", "thing"]
theorem sc_check_person : FnScope n_check_person p_check_person (defScope s_check_person) := ⟨rfl, rfl, rfl, by decide +kernel, rfl, by decide +kernel, by decide +kernel⟩
abbrev s_check_thing : Stmt := topS 26
abbrev n_check_thing : List Str := ["table", "thing"]
abbrev p_check_thing : List Str := ["table", "thing"]
theorem sc_check_thing : FnScope n_check_thing p_check_thing (defScope s_check_thing) := ⟨rfl, rfl, rfl, by decide +kernel, rfl, by decide +kernel, by decide +kernel⟩
abbrev s_check_pair : Stmt := topS 27
abbrev n_check_pair : List Str := ["table", "person", "thing"]
abbrev p_check_pair : List Str := ["table", "person", "thing"]
theorem sc_check_pair : FnScope n_check_pair p_check_pair (defScope s_check_pair) := ⟨rfl, rfl, rfl, by decide +kernel, rfl, by decide +kernel, by decide +kernel⟩
abbrev s_with_row : Stmt := topS 28
abbrev n_with_row : List Str := ["table", "person", "row"]
abbrev p_with_row : List Str := ["table", "person", "row"]
theorem sc_with_row : FnScope n_with_row p_with_row (defScope s_with_row) := ⟨rfl, rfl, rfl, by decide +kernel, rfl, by decide +kernel, by decide +kernel⟩
abbrev s_with_tie : Stmt := topS 29
abbrev n_with_tie : List Str := ["table", "person", "thing", "others", "other"]
abbrev p_with_tie : List Str := ["table", "person", "thing"]
theorem sc_with_tie : FnScope n_with_tie p_with_tie (defScope s_with_tie) := ⟨rfl, rfl, rfl, by decide +kernel, rfl, by decide +kernel, by decide +kernel⟩
abbrev s_without_tie : Stmt := topS 30
abbrev n_without_tie : List Str := ["table", "person", "thing", "other"]
abbrev p_without_tie : List Str := ["table", "person", "thing"]
theorem sc_without_tie : FnScope n_without_tie p_without_tie (defScope s_without_tie) := ⟨rfl, rfl, rfl, by decide +kernel, rfl, by decide +kernel, by decide +kernel⟩
abbrev s_bits : Stmt := topS 32
abbrev n_bits : List Str := ["numbers", "number"]
abbrev p_bits : List Str := ["numbers"]
theorem sc_bits : FnScope n_bits p_bits (defScope s_bits) := ⟨rfl, rfl, rfl, by decide +kernel, rfl, by decide +kernel, by decide +kernel⟩
abbrev s_without : Stmt := topS 33
abbrev n_without : List Str := ["lot", "number"]
abbrev p_without : List Str := ["lot", "number"]
theorem sc_without : FnScope n_without p_without (defScope s_without) := ⟨rfl, rfl, rfl, by decide +kernel, rfl, by decide +kernel, by decide +kernel⟩
abbrev s_has : Stmt := topS 34
abbrev n_has : List Str := ["lot", "number"]
abbrev p_has : List Str := ["lot", "number"]
theorem sc_has : FnScope n_has p_has (defScope s_has) := ⟨rfl, rfl, rfl, by decide +kernel, rfl, by decide +kernel, by decide +kernel⟩
abbrev s_least_of : Stmt := topS 35
abbrev n_least_of : List Str := ["lot"]
abbrev p_least_of : List Str := ["lot"]
theorem sc_least_of : FnScope n_least_of p_least_of (defScope s_least_of) := ⟨rfl, rfl, rfl, by decide +kernel, rfl, by decide +kernel, by decide +kernel⟩
abbrev s_Counter_init : Stmt := inClass (topS 36) 0
abbrev n_Counter_init : List Str := ["self", "rows"]
abbrev p_Counter_init : List Str := ["self", "rows"]
theorem sc_Counter_init : FnScope n_Counter_init p_Counter_init (defScope s_Counter_init) := ⟨rfl, rfl, rfl, by decide +kernel, rfl, by decide +kernel, by decide +kernel⟩
abbrev s_Counter_of : Stmt := inClass (topS 36) 1
abbrev n_Counter_of : List Str := ["self", "people", "things", "key", "person", "rest", "one"]
abbrev p_Counter_of : List Str := ["self", "people", "things"]
theorem sc_Counter_of : FnScope n_Counter_of p_Counter_of (defScope s_Counter_of) := ⟨rfl, rfl, rfl, by decide +kernel, rfl, by decide +kernel, by decide +kernel⟩
abbrev s_Counter_among : Stmt := inClass (topS 36) 2
abbrev n_Counter_among : List Str := ["self", "person", "things", "thing"]
abbrev p_Counter_among : List Str := ["self", "person", "things"]
theorem sc_Counter_among : FnScope n_Counter_among p_Counter_among (defScope s_Counter_among) := ⟨rfl, rfl, rfl, by decide +kernel, rfl, by decide +kernel, by decide +kernel⟩
abbrev s_left_of : Stmt := topS 38
abbrev n_left_of : List Str := ["standing", "people", "person", "got", "things", "thing"]
abbrev p_left_of : List Str := ["standing"]
theorem sc_left_of : FnScope n_left_of p_left_of (defScope s_left_of) := ⟨rfl, rfl, rfl, by decide +kernel, rfl, by decide +kernel, by decide +kernel⟩
abbrev s_many_behind : Stmt := topS 39
abbrev n_many_behind : List Str := ["counter", "standing", "people", "things"]
abbrev p_many_behind : List Str := ["counter", "standing"]
theorem sc_many_behind : FnScope n_many_behind p_many_behind (defScope s_many_behind) := ⟨rfl, rfl, rfl, by decide +kernel, rfl, by decide +kernel, by decide +kernel⟩
abbrev s_opens : Stmt := topS 40
abbrev n_opens : List Str := ["counter", "people", "things", "person", "rest", "found", "thing", "many"]
abbrev p_opens : List Str := ["counter", "people", "things", "person"]
theorem sc_opens : FnScope n_opens p_opens (defScope s_opens) := ⟨rfl, rfl, rfl, by decide +kernel, rfl, by decide +kernel, by decide +kernel⟩
abbrev s_openers : Stmt := topS 41
abbrev n_openers : List Str := ["counter", "people", "things", "thing", "rest", "found", "person", "row", "many"]
abbrev p_openers : List Str := ["counter", "people", "things", "thing"]
theorem sc_openers : FnScope n_openers p_openers (defScope s_openers) := ⟨rfl, rfl, rfl, by decide +kernel, rfl, by decide +kernel, by decide +kernel⟩
abbrev s_after_draw : Stmt := topS 42
abbrev n_after_draw : List Str := ["standing", "person", "thing"]
abbrev p_after_draw : List Str := ["standing", "person", "thing"]
theorem sc_after_draw : FnScope n_after_draw p_after_draw (defScope s_after_draw) := ⟨rfl, rfl, rfl, by decide +kernel, rfl, by decide +kernel, by decide +kernel⟩
abbrev s_known_in : Stmt := topS 43
abbrev n_known_in : List Str := ["counter", "standing", "person", "people", "things", "thing", "many"]
abbrev p_known_in : List Str := ["counter", "standing", "person"]
theorem sc_known_in : FnScope n_known_in p_known_in (defScope s_known_in) := ⟨rfl, rfl, rfl, by decide +kernel, rfl, by decide +kernel, by decide +kernel⟩
abbrev s_settled_in : Stmt := topS 44
abbrev n_settled_in : List Str := ["counter", "standing", "known", "person", "things"]
abbrev p_settled_in : List Str := ["counter", "standing"]
theorem sc_settled_in : FnScope n_settled_in p_settled_in (defScope s_settled_in) := ⟨rfl, rfl, rfl, by decide +kernel, rfl, by decide +kernel, by decide +kernel⟩
abbrev s_drawn_by : Stmt := topS 46
abbrev n_drawn_by : List Str := ["standing", "comer", "choice"]
abbrev p_drawn_by : List Str := ["standing", "comer", "choice"]
theorem sc_drawn_by : FnScope n_drawn_by p_drawn_by (defScope s_drawn_by) := ⟨rfl, rfl, rfl, by decide +kernel, rfl, by decide +kernel, by decide +kernel⟩
abbrev s_nothing_drawn : Stmt := topS 47
abbrev n_nothing_drawn : List Str := ["table"]
abbrev p_nothing_drawn : List Str := ["table"]
theorem sc_nothing_drawn : FnScope n_nothing_drawn p_nothing_drawn (defScope s_nothing_drawn) := ⟨rfl, rfl, rfl, by decide +kernel, rfl, by decide +kernel, by decide +kernel⟩
abbrev s_waiting_comers : Stmt := topS 48
abbrev n_waiting_comers : List Str := ["standing", "found", "person", "got", "thing"]
abbrev p_waiting_comers : List Str := ["standing"]
theorem sc_waiting_comers : FnScope n_waiting_comers p_waiting_comers (defScope s_waiting_comers) := ⟨rfl, rfl, rfl, by decide +kernel, rfl, by decide +kernel, by decide +kernel⟩
abbrev s_Draw_init : Stmt := inClass (topS 50) 0
abbrev n_Draw_init : List Str := ["self", "table"]
abbrev p_Draw_init : List Str := ["self", "table"]
theorem sc_Draw_init : FnScope n_Draw_init p_Draw_init (defScope s_Draw_init) := ⟨rfl, rfl, rfl, by decide +kernel, rfl, by decide +kernel, by decide +kernel⟩
abbrev s_Draw_change : Stmt := inClass (topS 50) 1
abbrev n_Draw_change : List Str := ["self", "table", "standing", "history"]
abbrev p_Draw_change : List Str := ["self", "table", "standing", "history"]
theorem sc_Draw_change : FnScope n_Draw_change p_Draw_change (defScope s_Draw_change) := ⟨rfl, rfl, rfl, by decide +kernel, rfl, by decide +kernel, by decide +kernel⟩
abbrev s_Draw_check_comer : Stmt := inClass (topS 50) 2
abbrev n_Draw_check_comer : List Str := ["self", "comer", "table", "standing", "history"]
abbrev p_Draw_check_comer : List Str := ["self", "comer"]
theorem sc_Draw_check_comer : FnScope n_Draw_check_comer p_Draw_check_comer (defScope s_Draw_check_comer) := ⟨rfl, rfl, rfl, by decide +kernel, rfl, by decide +kernel, by decide +kernel⟩
abbrev s_Draw_choices : Stmt := inClass (topS 50) 3
abbrev n_Draw_choices : List Str := ["self", "comer", "table", "standing", "history", "people", "things", "thing", "many", "person"]
abbrev p_Draw_choices : List Str := ["self", "comer"]
theorem sc_Draw_choices : FnScope n_Draw_choices p_Draw_choices (defScope s_Draw_choices) := ⟨rfl, rfl, rfl, by decide +kernel, rfl, by decide +kernel, by decide +kernel⟩
abbrev s_Draw_open_for : Stmt := inClass (topS 50) 4
abbrev n_Draw_open_for : List Str := ["self", "comer"]
abbrev p_Draw_open_for : List Str := ["self", "comer"]
theorem sc_Draw_open_for : FnScope n_Draw_open_for p_Draw_open_for (defScope s_Draw_open_for) := ⟨rfl, rfl, rfl, by decide +kernel, rfl, by decide +kernel, by decide +kernel⟩
abbrev s_Draw_draw : Stmt := inClass (topS 50) 5
abbrev n_Draw_draw : List Str := ["self", "comer", "choice", "table", "standing", "history", "pair"]
abbrev p_Draw_draw : List Str := ["self", "comer", "choice"]
theorem sc_Draw_draw : FnScope n_Draw_draw p_Draw_draw (defScope s_Draw_draw) := ⟨rfl, rfl, rfl, by decide +kernel, rfl, by decide +kernel, by decide +kernel⟩
abbrev s_Draw_strike : Stmt := inClass (topS 50) 6
abbrev n_Draw_strike : List Str := ["self", "person", "thing", "table", "standing", "history", "later"]
abbrev p_Draw_strike : List Str := ["self", "person", "thing"]
theorem sc_Draw_strike : FnScope n_Draw_strike p_Draw_strike (defScope s_Draw_strike) := ⟨rfl, rfl, rfl, by decide +kernel, rfl, by decide +kernel, by decide +kernel⟩
abbrev s_Draw_allow : Stmt := inClass (topS 50) 7
abbrev n_Draw_allow : List Str := ["self", "person", "thing", "table", "standing", "history"]
abbrev p_Draw_allow : List Str := ["self", "person", "thing"]
theorem sc_Draw_allow : FnScope n_Draw_allow p_Draw_allow (defScope s_Draw_allow) := ⟨rfl, rfl, rfl, by decide +kernel, rfl, by decide +kernel, by decide +kernel⟩
abbrev s_Draw_standing : Stmt := inClass (topS 50) 8
abbrev n_Draw_standing : List Str := ["self"]
abbrev p_Draw_standing : List Str := ["self"]
theorem sc_Draw_standing : FnScope n_Draw_standing p_Draw_standing (defScope s_Draw_standing) := ⟨rfl, rfl, rfl, by decide +kernel, rfl, by decide +kernel, by decide +kernel⟩
abbrev s_Draw_history : Stmt := inClass (topS 50) 9
abbrev n_Draw_history : List Str := ["self"]
abbrev p_Draw_history : List Str := ["self"]
theorem sc_Draw_history : FnScope n_Draw_history p_Draw_history (defScope s_Draw_history) := ⟨rfl, rfl, rfl, by decide +kernel, rfl, by decide +kernel, by decide +kernel⟩
abbrev s_Draw_table : Stmt := inClass (topS 50) 10
abbrev n_Draw_table : List Str := ["self"]
abbrev p_Draw_table : List Str := ["self"]
theorem sc_Draw_table : FnScope n_Draw_table p_Draw_table (defScope s_Draw_table) := ⟨rfl, rfl, rfl, by decide +kernel, rfl, by decide +kernel, by decide +kernel⟩
abbrev s_Draw_many : Stmt := inClass (topS 50) 11
abbrev n_Draw_many : List Str := ["self"]
abbrev p_Draw_many : List Str := ["self"]
theorem sc_Draw_many : FnScope n_Draw_many p_Draw_many (defScope s_Draw_many) := ⟨rfl, rfl, rfl, by decide +kernel, rfl, by decide +kernel, by decide +kernel⟩
abbrev s_Draw_settled : Stmt := inClass (topS 50) 12
abbrev n_Draw_settled : List Str := ["self"]
abbrev p_Draw_settled : List Str := ["self"]
theorem sc_Draw_settled : FnScope n_Draw_settled p_Draw_settled (defScope s_Draw_settled) := ⟨rfl, rfl, rfl, by decide +kernel, rfl, by decide +kernel, by decide +kernel⟩
abbrev s_Draw_back : Stmt := inClass (topS 50) 14
abbrev n_Draw_back : List Str := ["self"]
abbrev p_Draw_back : List Str := ["self"]
theorem sc_Draw_back : FnScope n_Draw_back p_Draw_back (defScope s_Draw_back) := ⟨rfl, rfl, rfl, by decide +kernel, rfl, by decide +kernel, by decide +kernel⟩
abbrev s_Draw_deeds : Stmt := inClass (topS 50) 15
abbrev n_Draw_deeds : List Str := ["self"]
abbrev p_Draw_deeds : List Str := ["self"]
theorem sc_Draw_deeds : FnScope n_Draw_deeds p_Draw_deeds (defScope s_Draw_deeds) := ⟨rfl, rfl, rfl, by decide +kernel, rfl, by decide +kernel, by decide +kernel⟩
abbrev s_Draw_copy : Stmt := inClass (topS 50) 16
abbrev n_Draw_copy : List Str := ["self", "found"]
abbrev p_Draw_copy : List Str := ["self"]
theorem sc_Draw_copy : FnScope n_Draw_copy p_Draw_copy (defScope s_Draw_copy) := ⟨rfl, rfl, rfl, by decide +kernel, rfl, by decide +kernel, by decide +kernel⟩
abbrev s_law_pool : Stmt := topS 52
abbrev n_law_pool : List Str := ["_law_script", "_law_seed", "_law_cell"]
abbrev p_law_pool : List Str := ["_law_script"]
theorem sc_law_pool : FnScope n_law_pool p_law_pool (defScope s_law_pool) := ⟨rfl, rfl, rfl, by decide +kernel, rfl, by decide +kernel, by decide +kernel⟩
abbrev s_law_draw : Stmt := topS 53
abbrev n_law_draw : List Str := ["_law_pool_here", "_law_many", "_law_cells", "_law_digit", "_law_mixed_here"]
abbrev p_law_draw : List Str := ["_law_pool_here", "_law_many"]
theorem sc_law_draw : FnScope n_law_draw p_law_draw (defScope s_law_draw) := ⟨rfl, rfl, rfl, by decide +kernel, rfl, by decide +kernel, by decide +kernel⟩
abbrev s_law_mixed : Stmt := topS 54
abbrev n_law_mixed : List Str := ["_law_pool_here", "_law_things", "_law_left", "_law_k"]
abbrev p_law_mixed : List Str := ["_law_pool_here", "_law_things"]
theorem sc_law_mixed : FnScope n_law_mixed p_law_mixed (defScope s_law_mixed) := ⟨rfl, rfl, rfl, by decide +kernel, rfl, by decide +kernel, by decide +kernel⟩
abbrev s_law_blocks : Stmt := topS 55
abbrev n_law_blocks : List Str := ["_law_pool_here", "_law_many", "_law_rows_here", "_law_last", "_law_wide", "_law_k", "_law_kind", "_law_person", "_law_thing"]
abbrev p_law_blocks : List Str := ["_law_pool_here", "_law_many"]
theorem sc_law_blocks : FnScope n_law_blocks p_law_blocks (defScope s_law_blocks) := ⟨rfl, rfl, rfl, by decide +kernel, rfl, by decide +kernel, by decide +kernel⟩
abbrev s_law_rows : Stmt := topS 56
abbrev n_law_rows : List Str := ["_law_pool_here", "_law_many", "_law_kind", "_law_own", "_law_chance", "_law_rows_here", "_law_thing", "_law_k", "_law_at", "_law_places", "_law_order"]
abbrev p_law_rows : List Str := ["_law_pool_here", "_law_many"]
theorem sc_law_rows : FnScope n_law_rows p_law_rows (defScope s_law_rows) := ⟨rfl, rfl, rfl, by decide +kernel, rfl, by decide +kernel, by decide +kernel⟩
abbrev s_law_all : Stmt := topS 57
abbrev n_law_all : List Str := ["_law_rows_here", "_law_found", "_law_row", "_law_longer", "_law_told", "_law_thing"]
abbrev p_law_all : List Str := ["_law_rows_here"]
theorem sc_law_all : FnScope n_law_all p_law_all (defScope s_law_all) := ⟨rfl, rfl, rfl, by decide +kernel, rfl, by decide +kernel, by decide +kernel⟩
abbrev s_law_fits : Stmt := topS 58
abbrev n_law_fits : List Str := ["_law_standing", "_law_dealing", "_law_k"]
abbrev p_law_fits : List Str := ["_law_standing", "_law_dealing"]
theorem sc_law_fits : FnScope n_law_fits p_law_fits (defScope s_law_fits) := ⟨rfl, rfl, rfl, by decide +kernel, rfl, by decide +kernel, by decide +kernel⟩
abbrev s_law_drawn : Stmt := topS 59
abbrev n_law_drawn : List Str := ["_law_standing", "_law_person", "_law_thing"]
abbrev p_law_drawn : List Str := ["_law_standing", "_law_person", "_law_thing"]
theorem sc_law_drawn : FnScope n_law_drawn p_law_drawn (defScope s_law_drawn) := ⟨rfl, rfl, rfl, by decide +kernel, rfl, by decide +kernel, by decide +kernel⟩
abbrev s_law_whole : Stmt := topS 60
abbrev n_law_whole : List Str := ["_law_told", "_law_due"]
abbrev p_law_whole : List Str := ["_law_told", "_law_due"]
theorem sc_law_whole : FnScope n_law_whole p_law_whole (defScope s_law_whole) := ⟨rfl, rfl, rfl, by decide +kernel, rfl, by decide +kernel, by decide +kernel⟩
abbrev s_law_deals : Stmt := topS 61
abbrev n_law_deals : List Str := ["_law_state", "_law_told"]
abbrev p_law_deals : List Str := ["_law_state"]
theorem sc_law_deals : FnScope n_law_deals p_law_deals (defScope s_law_deals) := ⟨rfl, rfl, rfl, by decide +kernel, rfl, by decide +kernel, by decide +kernel⟩
abbrev s_law_comers : Stmt := topS 62
abbrev n_law_comers : List Str := ["_law_standing", "_law_many", "_law_found", "_law_k"]
abbrev p_law_comers : List Str := ["_law_standing"]
theorem sc_law_comers : FnScope n_law_comers p_law_comers (defScope s_law_comers) := ⟨rfl, rfl, rfl, by decide +kernel, rfl, by decide +kernel, by decide +kernel⟩
abbrev s_law_choices : Stmt := topS 63
abbrev n_law_choices : List Str := ["_law_deals_here", "_law_comer", "_law_told"]
abbrev p_law_choices : List Str := ["_law_deals_here", "_law_comer"]
theorem sc_law_choices : FnScope n_law_choices p_law_choices (defScope s_law_choices) := ⟨rfl, rfl, rfl, by decide +kernel, rfl, by decide +kernel, by decide +kernel⟩
abbrev s_law_go_on : Stmt := topS 64
abbrev n_law_go_on : List Str := ["_law_state", "_law_rows_here", "_law_standing", "_law_history"]
abbrev p_law_go_on : List Str := ["_law_state", "_law_rows_here", "_law_standing", "_law_history"]
theorem sc_law_go_on : FnScope n_law_go_on p_law_go_on (defScope s_law_go_on) := ⟨rfl, rfl, rfl, by decide +kernel, rfl, by decide +kernel, by decide +kernel⟩
abbrev s_law_go_back : Stmt := topS 65
abbrev n_law_go_back : List Str := ["_law_state", "_law_elder"]
abbrev p_law_go_back : List Str := ["_law_state"]
theorem sc_law_go_back : FnScope n_law_go_back p_law_go_back (defScope s_law_go_back) := ⟨rfl, rfl, rfl, by decide +kernel, rfl, by decide +kernel, by decide +kernel⟩
abbrev s_law_draws : Stmt := topS 66
abbrev n_law_draws : List Str := ["_law_state", "_law_comer", "_law_choice", "_law_person", "_law_thing"]
abbrev p_law_draws : List Str := ["_law_state", "_law_comer", "_law_choice"]
theorem sc_law_draws : FnScope n_law_draws p_law_draws (defScope s_law_draws) := ⟨rfl, rfl, rfl, by decide +kernel, rfl, by decide +kernel, by decide +kernel⟩
abbrev s_law_settled : Stmt := topS 67
abbrev n_law_settled : List Str := ["_law_deals_here", "_law_found", "_law_person", "_law_told"]
abbrev p_law_settled : List Str := ["_law_deals_here"]
theorem sc_law_settled : FnScope n_law_settled p_law_settled (defScope s_law_settled) := ⟨rfl, rfl, rfl, by decide +kernel, rfl, by decide +kernel, by decide +kernel⟩
abbrev s_law_seen : Stmt := topS 68
abbrev n_law_seen : List Str := ["_law_draw_here", "_law_state", "_law_rows_here", "_law_standing", "_law_history", "_law_deals_here", "_law_told", "_law_comer", "_law_found", "_law_one"]
abbrev p_law_seen : List Str := ["_law_draw_here", "_law_state"]
theorem sc_law_seen : FnScope n_law_seen p_law_seen (defScope s_law_seen) := ⟨rfl, rfl, rfl, by decide +kernel, rfl, by decide +kernel, by decide +kernel⟩
abbrev s_law_without : Stmt := topS 69
abbrev n_law_without : List Str := ["_law_rows_here", "_law_person", "_law_thing", "_law_other"]
abbrev p_law_without : List Str := ["_law_rows_here", "_law_person", "_law_thing"]
theorem sc_law_without : FnScope n_law_without p_law_without (defScope s_law_without) := ⟨rfl, rfl, rfl, by decide +kernel, rfl, by decide +kernel, by decide +kernel⟩
abbrev s_law_with : Stmt := topS 70
abbrev n_law_with : List Str := ["_law_rows_here", "_law_person", "_law_thing"]
abbrev p_law_with : List Str := ["_law_rows_here", "_law_person", "_law_thing"]
theorem sc_law_with : FnScope n_law_with p_law_with (defScope s_law_with) := ⟨rfl, rfl, rfl, by decide +kernel, rfl, by decide +kernel, by decide +kernel⟩
abbrev s_law_sound : Stmt := topS 71
abbrev n_law_sound : List Str := ["_law_rows_here", "_law_standing", "_law_told"]
abbrev p_law_sound : List Str := ["_law_rows_here", "_law_standing"]
theorem sc_law_sound : FnScope n_law_sound p_law_sound (defScope s_law_sound) := ⟨rfl, rfl, rfl, by decide +kernel, rfl, by decide +kernel, by decide +kernel⟩
abbrev s_law_struck_due : Stmt := topS 72
abbrev n_law_struck_due : List Str := ["_law_state", "_law_person", "_law_thing", "_law_rows_here"]
abbrev p_law_struck_due : List Str := ["_law_state", "_law_person", "_law_thing"]
theorem sc_law_struck_due : FnScope n_law_struck_due p_law_struck_due (defScope s_law_struck_due) := ⟨rfl, rfl, rfl, by decide +kernel, rfl, by decide +kernel, by decide +kernel⟩
abbrev s_law_told_strike : Stmt := topS 73
abbrev n_law_told_strike : List Str := ["_law_draw_here", "_law_person", "_law_thing", "_law_told"]
abbrev p_law_told_strike : List Str := ["_law_draw_here", "_law_person", "_law_thing"]
theorem sc_law_told_strike : FnScope n_law_told_strike p_law_told_strike (defScope s_law_told_strike) := ⟨rfl, rfl, rfl, by decide +kernel, rfl, by decide +kernel, by decide +kernel⟩
abbrev s_law_told_allow : Stmt := topS 74
abbrev n_law_told_allow : List Str := ["_law_draw_here", "_law_person", "_law_thing", "_law_told"]
abbrev p_law_told_allow : List Str := ["_law_draw_here", "_law_person", "_law_thing"]
theorem sc_law_told_allow : FnScope n_law_told_allow p_law_told_allow (defScope s_law_told_allow) := ⟨rfl, rfl, rfl, by decide +kernel, rfl, by decide +kernel, by decide +kernel⟩
abbrev s_law_strikes : Stmt := topS 75
abbrev n_law_strikes : List Str := ["_law_pool_here", "_law_draw_here", "_law_state", "_law_person", "_law_thing", "_law_rows_here", "_law_told"]
abbrev p_law_strikes : List Str := ["_law_pool_here", "_law_draw_here", "_law_state"]
theorem sc_law_strikes : FnScope n_law_strikes p_law_strikes (defScope s_law_strikes) := ⟨rfl, rfl, rfl, by decide +kernel, rfl, by decide +kernel, by decide +kernel⟩
abbrev s_law_allows : Stmt := topS 76
abbrev n_law_allows : List Str := ["_law_pool_here", "_law_draw_here", "_law_state", "_law_person", "_law_thing", "_law_told"]
abbrev p_law_allows : List Str := ["_law_pool_here", "_law_draw_here", "_law_state"]
theorem sc_law_allows : FnScope n_law_allows p_law_allows (defScope s_law_allows) := ⟨rfl, rfl, rfl, by decide +kernel, rfl, by decide +kernel, by decide +kernel⟩
abbrev s_law_one_deed : Stmt := topS 77
abbrev n_law_one_deed : List Str := ["_law_pool_here", "_law_draw_here", "_law_state", "_law_kind", "_law_comers_here", "_law_comer", "_law_choices_here", "_law_choice"]
abbrev p_law_one_deed : List Str := ["_law_pool_here", "_law_draw_here", "_law_state"]
theorem sc_law_one_deed : FnScope n_law_one_deed p_law_one_deed (defScope s_law_one_deed) := ⟨rfl, rfl, rfl, by decide +kernel, rfl, by decide +kernel, by decide +kernel⟩
abbrev s_law : Stmt := topS 78
abbrev n_law : List Str := ["_law_script", "_law_pool_here", "_law_rows_here", "_law_table", "_law_draw_here", "_law_state", "_law_many", "_law_when", "_law_other", "_law_kept", "_law_turn"]
abbrev p_law : List Str := ["_law_script"]
theorem sc_law : FnScope n_law p_law (defScope s_law) := ⟨rfl, rfl, rfl, by decide +kernel, rfl, by decide +kernel, by decide +kernel⟩
structure Tp (K : PySem.W.Frag) (mg : Str → Option Value) where
  is_integer : Gf K mg "is_integer" s_is_integer p_is_integer
  is_within : Gf K mg "is_within" s_is_within p_is_within
  is_pair : Gf K mg "is_pair" s_is_pair p_is_pair
  are_ascending : Gf K mg "are_ascending" s_are_ascending p_are_ascending
  is_lot_of : Gf K mg "is_lot_of" s_is_lot_of p_is_lot_of
  Matching : Cf K mg "Matching" ["rows", "of", "owner", "left"] "Matching.__init__" s_Matching_init p_Matching_init
  Matching_seat : Mf K Matching.C "seat" "Matching.seat" s_Matching_seat p_Matching_seat
  Matching_hand_on : Mf K Matching.C "hand_on" "Matching.hand_on" s_Matching_hand_on p_Matching_hand_on
  can_be_dealt : Gf K mg "can_be_dealt" s_can_be_dealt p_can_be_dealt
  check_stuck : Gf K mg "check_stuck" s_check_stuck p_check_stuck
  Table : Cf K mg "Table" ["rows", "size"] "Table.__init__" s_Table_init p_Table_init
  Table_keep : Mf K Table.C "keep" "Table.keep" s_Table_keep p_Table_keep
  Table_eq : Mf K Table.C "__eq__" "Table.__eq__" s_Table_eq p_Table_eq
  RawTable : Cf K mg "RawTable" ["rows", "size"] "RawTable.__init__" s_RawTable_init p_RawTable_init
  RawTable_keep : Mf K RawTable.C "keep" "Table.keep" s_Table_keep p_Table_keep
  RawTable_eq : Mf K RawTable.C "__eq__" "Table.__eq__" s_Table_eq p_Table_eq
  is_person : Gf K mg "is_person" s_is_person p_is_person
  check_person : Gf K mg "check_person" s_check_person p_check_person
  check_thing : Gf K mg "check_thing" s_check_thing p_check_thing
  check_pair : Gf K mg "check_pair" s_check_pair p_check_pair
  with_row : Gf K mg "with_row" s_with_row p_with_row
  with_tie : Gf K mg "with_tie" s_with_tie p_with_tie
  without_tie : Gf K mg "without_tie" s_without_tie p_without_tie
  bits : Gf K mg "bits" s_bits p_bits
  without : Gf K mg "without" s_without p_without
  has : Gf K mg "has" s_has p_has
  least_of : Gf K mg "least_of" s_least_of p_least_of
  Counter : Cf K mg "Counter" ["rows", "whole", "known"] "Counter.__init__" s_Counter_init p_Counter_init
  Counter_of : Mf K Counter.C "of" "Counter.of" s_Counter_of p_Counter_of
  Counter_among : Mf K Counter.C "among" "Counter.among" s_Counter_among p_Counter_among
  left_of : Gf K mg "left_of" s_left_of p_left_of
  many_behind : Gf K mg "many_behind" s_many_behind p_many_behind
  opens : Gf K mg "opens" s_opens p_opens
  openers : Gf K mg "openers" s_openers p_openers
  after_draw : Gf K mg "after_draw" s_after_draw p_after_draw
  known_in : Gf K mg "known_in" s_known_in p_known_in
  settled_in : Gf K mg "settled_in" s_settled_in p_settled_in
  drawn_by : Gf K mg "drawn_by" s_drawn_by p_drawn_by
  nothing_drawn : Gf K mg "nothing_drawn" s_nothing_drawn p_nothing_drawn
  waiting_comers : Gf K mg "waiting_comers" s_waiting_comers p_waiting_comers
  Draw : Cf K mg "Draw" ["now", "past"] "Draw.__init__" s_Draw_init p_Draw_init
  Draw_change : Mf K Draw.C "change" "Draw.change" s_Draw_change p_Draw_change
  Draw_check_comer : Mf K Draw.C "check_comer" "Draw.check_comer" s_Draw_check_comer p_Draw_check_comer
  Draw_choices : Mf K Draw.C "choices" "Draw.choices" s_Draw_choices p_Draw_choices
  Draw_open_for : Mf K Draw.C "open_for" "Draw.open_for" s_Draw_open_for p_Draw_open_for
  Draw_draw : Mf K Draw.C "draw" "Draw.draw" s_Draw_draw p_Draw_draw
  Draw_strike : Mf K Draw.C "strike" "Draw.strike" s_Draw_strike p_Draw_strike
  Draw_allow : Mf K Draw.C "allow" "Draw.allow" s_Draw_allow p_Draw_allow
  Draw_standing : Mf K Draw.C "standing" "Draw.standing" s_Draw_standing p_Draw_standing
  Draw_history : Mf K Draw.C "history" "Draw.history" s_Draw_history p_Draw_history
  Draw_table : Mf K Draw.C "table" "Draw.table" s_Draw_table p_Draw_table
  Draw_many : Mf K Draw.C "many" "Draw.many" s_Draw_many p_Draw_many
  Draw_settled : Mf K Draw.C "settled" "Draw.settled" s_Draw_settled p_Draw_settled
  Draw_back : Mf K Draw.C "back" "Draw.back" s_Draw_back p_Draw_back
  Draw_deeds : Mf K Draw.C "deeds" "Draw.deeds" s_Draw_deeds p_Draw_deeds
  Draw_copy : Mf K Draw.C "copy" "Draw.copy" s_Draw_copy p_Draw_copy
  law_pool : Gf K mg "_law_pool" s_law_pool p_law_pool
  law_draw : Gf K mg "_law_draw" s_law_draw p_law_draw
  law_mixed : Gf K mg "_law_mixed" s_law_mixed p_law_mixed
  law_blocks : Gf K mg "_law_blocks" s_law_blocks p_law_blocks
  law_rows : Gf K mg "_law_rows" s_law_rows p_law_rows
  law_all : Gf K mg "_law_all" s_law_all p_law_all
  law_fits : Gf K mg "_law_fits" s_law_fits p_law_fits
  law_drawn : Gf K mg "_law_drawn" s_law_drawn p_law_drawn
  law_whole : Gf K mg "_law_whole" s_law_whole p_law_whole
  law_deals : Gf K mg "_law_deals" s_law_deals p_law_deals
  law_comers : Gf K mg "_law_comers" s_law_comers p_law_comers
  law_choices : Gf K mg "_law_choices" s_law_choices p_law_choices
  law_go_on : Gf K mg "_law_go_on" s_law_go_on p_law_go_on
  law_go_back : Gf K mg "_law_go_back" s_law_go_back p_law_go_back
  law_draws : Gf K mg "_law_draws" s_law_draws p_law_draws
  law_settled : Gf K mg "_law_settled" s_law_settled p_law_settled
  law_seen : Gf K mg "_law_seen" s_law_seen p_law_seen
  law_without : Gf K mg "_law_without" s_law_without p_law_without
  law_with : Gf K mg "_law_with" s_law_with p_law_with
  law_sound : Gf K mg "_law_sound" s_law_sound p_law_sound
  law_struck_due : Gf K mg "_law_struck_due" s_law_struck_due p_law_struck_due
  law_told_strike : Gf K mg "_law_told_strike" s_law_told_strike p_law_told_strike
  law_told_allow : Gf K mg "_law_told_allow" s_law_told_allow p_law_told_allow
  law_strikes : Gf K mg "_law_strikes" s_law_strikes p_law_strikes
  law_allows : Gf K mg "_law_allows" s_law_allows p_law_allows
  law_one_deed : Gf K mg "_law_one_deed" s_law_one_deed p_law_one_deed
  law : Gf K mg "law" s_law p_law
  b_len : mg "len" = none
  b_sum : mg "sum" = none
  b_all : mg "all" = none
  b_max : mg "max" = none
  b_min : mg "min" = none
  b_sorted : mg "sorted" = none
  b_abs : mg "abs" = none
  b_isinstance : mg "isinstance" = none
  b_int : mg "int" = none
  b_tuple : mg "tuple" = none
  b_list : mg "list" = none
  b_set : mg "set" = none
  b_bool : mg "bool" = none
  b_str : mg "str" = none
  b_dict : mg "dict" = none
  b_range : mg "range" = none
  b_enumerate : mg "enumerate" = none
  b_zip : mg "zip" = none
  MOST : Tok
  mMOST : mg "MOST_PEOPLE" = some (.int 12 MOST)
  ha_Table : PySem.W.findIn K (.ref Table.C) "__class__" = some (some (.builtin "object.__class__"))
  hm_Table : PySem.W.mroIn K Table.C (.type "object") = some true
  ne_Table : PySem.W.findIn K (.ref Table.C) "__ne__" = some (some (.builtin "object.__ne__"))
  ko_Table : PySem.W.kitOne K (.ref Table.C) (.ref Table.C) = some true
  nf_Table : PySem.W.notFirst K Table.C (.ref Table.C) = true
  ha_RawTable : PySem.W.findIn K (.ref RawTable.C) "__class__" = some (some (.builtin "object.__class__"))
  hm_RawTable : PySem.W.mroIn K RawTable.C (.type "object") = some true
  ne_RawTable : PySem.W.findIn K (.ref RawTable.C) "__ne__" = some (some (.builtin "object.__ne__"))
  ko_RawTable : PySem.W.kitOne K (.ref RawTable.C) (.ref Table.C) = some true
  nf_RawTable : PySem.W.notFirst K RawTable.C (.ref Table.C) = true
  hn : PySem.W.specialIn K (.builtin "object.__class__") "__get__" = some (some (.builtin "getset_descriptor.__get__"))
  htk : PySem.W.takesIn K (.builtin "object.__class__") = some true
  NO : Addr
  mNO : mg "NotOpen" = some (.ref NO)
  xNO : PySem.W.excIn K NO [.type "ValueError", .type "Exception", .type "BaseException", .type "object"] "ValueError.__new__" = true
  kNO : PySem.W.keepIn K (.ref NO) = true
  bNO : PySem.W.subIn K (.ref NO) (.type "BaseException") = some true
  tNO : PySem.W.typeIn K (.ref NO) = some (.type "type")
  eNO : PySem.W.exmOne K (.ref NO) (.ref NO) = some true
end Fo
set_option Elab.async false
set_option linter.all false
set_option maxRecDepth 100000
/-! Typed rules over my own rules; instances, their making; tables, counters. -/
namespace Fo
open PySem PySem.Spec PyProof.Rows L2
section
variable {K : PySem.W.Frag} {W : Wd} {G : Ctx} {te ta tb : TE} {tr : TA} {T U S R : Ty} {ts us : List Ty} {α : Type}
/-! ### enumerate over a tuple -/
theorem itOk_enumT {a : Addr} : ItOk (IteT K a) (ts.zipIdx.map fun p => Ty.tup [tN p.2, p.1]) (fun h => ∃ vs, Rd h a (.tup vs) ∧ Al h ts vs) where
  go := fun {h H i} ⟨vs, e, al⟩ x hi => by
    have hl : i < vs.length := by rw [List.length_map, List.length_zipIdx] at hi; rw [← al.len]; exact hi
    exact ⟨vs, vs[i], .inl (x.rdT e), List.getElem?_eq_getElem hl⟩
  stop := fun ⟨vs, e, al⟩ x => ⟨vs, .inl (x.rdT e), by rw [List.length_map, List.length_zipIdx, al.len]⟩
  yld := fun {W H H' i x T} ok ⟨vs, e, al⟩ hT y => by
    obtain ⟨p, z, rfl, hp, rfl, hy⟩ := y
    rw [List.getElem?_map, List.getElem?_zipIdx] at hT
    cases et : ts[i]? with
    | none => rw [et] at hT; cases hT
    | some U =>
      rw [et] at hT
      cases hT
      obtain ⟨v, ev, pv⟩ := al.get et
      have e2 := hy vs (.inl (rd_vis e))
      rw [ev] at e2
      cases e2
      refine ⟨Xt.new hp, p, [.int (i : Nat), z], rfl, ok.rd_new hp, ?_, U.mo (ok.new (o := .tup [.int (i : Nat), z]) hp).1 pv, trivial⟩
      show V.int _ = V.int _
      rw [Nat.zero_add]
  mo := fun ⟨vs, e, al⟩ x => ⟨vs, x.rdT e, al.mo x⟩
theorem EVI.enumT (h : EVA W G tr [Ty.tup ts]) : EVI W G (iEnumT K tr) (ts.zipIdx.map fun p => Ty.tup [tN p.2, p.1]) := ⟨fun ok fr k => h.run ok fr fun vs H1 s1 p => by
  obtain ⟨v, rfl, a, vs, e0, e, al⟩ := al1 p
  subst e0
  exact ⟨a, vs, rfl, .inl (rd_vis e), k _ H1 _ s1 ⟨vs, e, al⟩ itOk_enumT⟩⟩
theorem zipIdx_tup (L : List α) (f : α → Ty) : ((L.map f).zipIdx.map fun p => Ty.tup [tN p.2, p.1]) = L.zipIdx.map fun p => Ty.tup [tN p.2, f p.1] := by
  rw [List.zipIdx_map, List.map_map]; rfl
/-! ### lists of ranges -/
theorem rgV_nat (lo hi : Nat) : rgV (lo : Int) (hi : Int) = (List.range (hi - lo)).map fun i => nV (lo + i) := by
  unfold rgV
  rw [show ((hi : Int) - (lo : Int)).toNat = hi - lo by omega]
  refine List.map_congr_left fun i _ => ?_
  show V.int _ = V.int _
  rw [Int.natCast_add]
theorem lstRg_fin {lo hi : Nat} {H : Hp} {Q : VK} (ok : W.ok H) (h1 : lo ≤ 1000) (h2 : hi ≤ 1000) (k : ∀ v H', W.st H H' → (Ty.lst ((List.range (hi - lo)).map fun i => tN (lo + i))).p (W.v H') v → Q v H') :
    RgOk (lo : Int) (hi : Int) ∧ ∀ q, H q = none → Q (.ref q) (upd H q (.lst (rgV (lo : Int) (hi : Int)))) := by
  refine ⟨RgOk.of_le (by omega) (by omega) (by omega) (by omega), fun q hq => ?_⟩
  rw [rgV_nat]
  refine k _ _ (ok.new hq) ⟨q, (List.range (hi - lo)).map fun i => nV (lo + i), rfl, ?_, ?_⟩
  · rw [ok.v_new hq, upd_same]
  · have := is_al (H := W.v (upd H q (.lst ((List.range (hi - lo)).map fun i => nV (lo + i))))) (xs := (List.range (hi - lo)).map fun i => nV (lo + i))
    rw [List.map_map] at this
    exact this
theorem EV.lstRg1 {n : Nat} (h : EV W G ta (tN n)) (hn : n ≤ 1000) : EV W G (tLstRg (tRg1 ta)) (Ty.lst ((List.range n).map tN)) := ⟨fun ok fr k => h.run ok fr fun v H1 s1 p => by
  cases p
  refine ⟨(n : Int), rfl, lstRg_fin (lo := 0) s1.2 (by omega) hn fun v H' s p => k v H' (s1.trans s) ?_⟩
  have e : ((List.range (n - 0)).map fun i => tN (0 + i)) = (List.range n).map tN := by
    rw [Nat.sub_zero]
    refine List.map_congr_left fun i _ => ?_
    rw [Nat.zero_add]
  rw [e] at p
  exact p⟩
theorem EV.lstRg2 {lo hi : Nat} (h : EV W G ta (tN lo)) (h' : EV W G tb (tN hi)) (h1 : lo ≤ 1000) (h2 : hi ≤ 1000) : EV W G (tLstRg (tRg2 ta tb)) (Ty.lst ((List.range (hi - lo)).map fun i => tN (lo + i))) := ⟨fun ok fr k => h.run ok fr fun v H1 s1 p => by
  cases p
  exact h'.run s1.2 (fr.mo s1.1) fun v' H2 s2 p2 => by
    cases p2
    exact ⟨_, _, rfl, rfl, lstRg_fin s2.2 h1 h2 fun v H' s p => k v H' ((s1.trans s2).trans s) p⟩⟩
/-! ### sets of ints -/
/-- the set of the ints ns, c of them -/
def Ty.set (w : World) (ns : List Int) : Ty := ⟨fun H v => ∃ a c, v = .ref a ∧ H a = some (SetO w a (fun j => decide (j ∈ ns)) c) ∧ c ≤ ns.length ∧ Card (fun j => decide (j ∈ ns)) c,
  fun x ⟨a, c, e, h, k⟩ => ⟨a, c, e, x.at h trivial, k⟩⟩
theorem RC.setL {w : World} {ns : List Int} (hn : ns.length ≤ 100) : RC W (rSetI K w) [lstF (ns.map V.int)] (Ty.set w ns) := ⟨fun {vs H Q} ok al0 k => by
  obtain ⟨v, rfl, a, vs, e0, e, al⟩ := al1 al0
  subst e0
  rw [al_is al] at e
  refine ⟨a, ns, rfl, .inl (SqL.of (vis_some e).2), hn, fun p c hp hc hk => ?_⟩
  refine k _ _ (ok.new hp) ⟨p, c, rfl, ?_, hc, hk⟩
  rw [ok.v_new hp, upd_same]⟩
theorem RC.setT {w : World} {ns : List Int} (hn : ns.length ≤ 100) : RC W (rSetI K w) [tupF (ns.map V.int)] (Ty.set w ns) := ⟨fun {vs H Q} ok al0 k => by
  obtain ⟨v, rfl, a, vs, e0, e, al⟩ := al1 al0
  subst e0
  rw [al_is al] at e
  refine ⟨a, ns, rfl, .inr (.inl (rd_vis e)), hn, fun p c hp hc hk => ?_⟩
  refine k _ _ (ok.new hp) ⟨p, c, rfl, ?_, hc, hk⟩
  rw [ok.v_new hp, upd_same]⟩
theorem RC.lenSet {w : World} {ns : List Int} {n : Nat} (hn : ns.length ≤ 100) (h : ∀ c, Card (fun j => decide (j ∈ ns)) c → c = n) : RC W (rLenSet w) [Ty.set w ns] (tN n) := ⟨fun {vs H Q} ok al0 k => by
  obtain ⟨v, rfl, a, c, e0, e, hc, hk⟩ := al1 al0
  subst e0
  exact ⟨a, _, c, rfl, (vis_some e).2, by omega, k _ _ ok.st (by rw [h c hk]; rfl)⟩⟩
theorem RC.sortedSet {w : World} {ns ms : List Int} (hn : ns.length < 64) (hs : ms.Pairwise (· < ·)) (hm : ∀ k, k ∈ ms ↔ k ∈ ns) : RC W (rSortedSet w) [Ty.set w ns] (lstF (ms.map V.int)) := ⟨fun {vs H Q} ok al0 k => by
  obtain ⟨v, rfl, a, c, e0, e, hc, hk⟩ := al1 al0
  subst e0
  refine ⟨a, _, c, rfl, (vis_some e).2, by omega, fun ns' p h1 h2 h3 hp => ?_⟩
  have e2 : ns' = ms := by
    have q : ns'.Perm ms := by
      refine (List.perm_ext_iff_of_nodup (h1.imp fun z => Int.ne_of_lt z) (hs.imp fun z => Int.ne_of_lt z)).mpr fun j => ?_
      rw [h2 j, hm j, decide_eq_true_iff]
    exact strict_unique q (h1.imp Int.le_of_lt) (hs.imp Int.le_of_lt)
  subst e2
  refine k _ _ (ok.new hp) ⟨p, _, rfl, ?_, is_al⟩
  rw [ok.v_new hp, upd_same]⟩
end
theorem pg_tupC {X : Cx} {K : PySem.W.Frag} {es : List Expr} {k : Nat} {pos : Pos} {t : TGs} {n : Nat} (hK : X.K = K) (hc : X.calm = true) (h : PGs X es t)
    (hn : (assignEach es X.env).length = n := by rfl) (hst : (assignEach es X.env).findIdx? (·.1) = none := by rfl) : PG X (.Tuple es k pos) (gTup K n t) := by
  subst hK
  exact pg_tup hc h hn hst
/-! ## instances that are made -/
/-- the promise of an __init__ (or of what it calls): from no fields to fields of which res holds -/
def iSp {ι : Type} (C : Addr) (args : ι → List Ty) (ok : ι → Prop) (res : ι → Hp → List (Str × V) → Prop) : Sp := fun vs H Q _ => ∃ (i : ι) (W : Wd) (p dx : Addr) (ws : List V), ok i ∧ p ∉ W.M ∧ vs = .ref p :: ws ∧
  (W.own p (.ins C dx []) notT_i).ok H ∧ Al ((W.own p (.ins C dx []) notT_i).v H) (args i) ws ∧ ∀ H' fs, (W.own p (.ins C dx fs) notT_i).ok H' → Xt ((W.own p (.ins C dx []) notT_i).v H) ((W.own p (.ins C dx fs) notT_i).v H') →
    res i ((W.own p (.ins C dx fs) notT_i).v H') fs → Q .non H'
/-- an instance of the class at C -/
def Ty.ins (C : Addr) (res : Hp → List (Str × V) → Prop) (mo : ∀ {H H' fs}, Xt H H' → res H fs → res H' fs) : Ty := ⟨fun H v => ∃ a dx fs, v = .ref a ∧ H a = some (.ins C dx fs) ∧ res H fs, fun x ⟨a, dx, fs, e, h, r⟩ => ⟨a, dx, fs, e, x.at h notT_i, mo x r⟩⟩
theorem EV.make {ι : Type} {C : Addr} {args : ι → List Ty} {ok : ι → Prop} {res : ι → Hp → List (Str × V) → Prop} {W : Wd} {G : Ctx} {E : XK} {ta : TA} {ts : List Ty} {U : Ty} (i : ι) (h : EVA W G ta ts) (hi : ok i) (e : ts = args i)
    (hU : ∀ H a dx fs, H a = some (.ins C dx fs) → (∃ H0, Xt H0 H ∧ res i H0 fs) → U.p H (.ref a)) : EV W G (tMake C (iSp C args ok res) [] E ta) U := ⟨fun okW fr k =>
  h.run okW fr fun vs H1 s1 p1 => by
    subst e
    intro x dx hx hdx hne
    have s2 := s1.2.new (o := .own x) hdx
    have hx2 : upd H1 dx (.own x) x = none := by rw [upd_ne hne.symm]; exact hx
    have ok3 : (W.own x (.ins C dx []) notT_i).ok (upd (upd H1 dx (.own x)) x (.ins C dx [])) := s2.2.own hx2
    have v3 : (W.own x (.ins C dx []) notT_i).v (upd (upd H1 dx (.own x)) x (.ins C dx [])) = W.v (upd H1 dx (.own x)) := own_v s2.2 hx2
    refine ⟨i, W, x, dx, vs, hi, s2.2.nM hx2, by rw [List.append_nil], ok3, by rw [v3]; exact p1.mo s2.1, fun H' fs ok4 x4 r4 => ⟨rfl, ?_⟩⟩
    have okH : W.ok H' := ok4.show_
    rw [v3] at x4
    have xx : Xt (W.v H1) (W.v H') := s2.1.trans (x4.trans own_sub)
    refine k _ H' (s1.trans ⟨xx, okH⟩) (hU _ x dx fs ?_ ⟨_, own_sub, r4⟩)
    rw [Wd.v, vis_eq (s2.2.nM hx2)]
    exact ok4.at⟩
/-- self.f = e -/
theorem fld_run {K : PySem.W.Frag} {W : Wd} {G : Ctx} {te : TE} {T : Ty} {σ : L2.St} {H : Hp} {D : Ends} {p C dx : Addr} {fs : List (Str × V)} {f : Str} (hp : p ∉ W.M) (h0 : σ[0]? = some (some (.ref p))) (ok : (W.own p (.ins C dx fs) notT_i).ok H) (fr : Fr ((W.own p (.ins C dx fs) notT_i).v H) G σ)
    (he : EV (W.own p (.ins C dx fs) notT_i) G te T) (cl : Cls K C) (na : NoAttr K C f) (hl : fs.length < 1000)
    (k : ∀ v H', (W.own p (.ins C dx (putF f v fs)) notT_i).ok H' → Xt ((W.own p (.ins C dx fs) notT_i).v H) ((W.own p (.ins C dx (putF f v fs)) notT_i).v H') → T.p ((W.own p (.ins C dx (putF f v fs)) notT_i).v H') v → D.nx σ H') :
    sFld K (tVar 0) te f D σ H := he.run ok fr fun v H1 s1 pv => by
  refine ⟨.ref p, h0, p, C, dx, fs, rfl, s1.2.at, cl, na, hl, ?_⟩
  refine k v _ (s1.2.put hp) ?_ ?_
  · rw [own_put (n := notT_i)]; exact s1.1
  · rw [own_put (n := notT_i)]; exact pv

theorem fld_seq {K : PySem.W.Frag} {W : Wd} {G : Ctx} {te : TE} {T : Ty} {σ : L2.St} {H : Hp} {D : Ends} {u : TS} {p C dx : Addr} {fs : List (Str × V)} {f : Str} (hp : p ∉ W.M) (h0 : σ[0]? = some (some (.ref p))) (ok : (W.own p (.ins C dx fs) notT_i).ok H) (fr : Fr ((W.own p (.ins C dx fs) notT_i).v H) G σ)
    (he : EV (W.own p (.ins C dx fs) notT_i) G te T) (cl : Cls K C) (na : NoAttr K C f) (hl : fs.length < 1000)
    (k : ∀ v H', (W.own p (.ins C dx (putF f v fs)) notT_i).ok H' → Xt ((W.own p (.ins C dx fs) notT_i).v H) ((W.own p (.ins C dx (putF f v fs)) notT_i).v H') → T.p ((W.own p (.ins C dx (putF f v fs)) notT_i).v H') v → u D σ H') :
    tSeq (sFld K (tVar 0) te f) u D σ H := fld_run (D := { D with nx := u D }) hp h0 ok fr he cl na hl k

/-! ## by hand, statement by statement -/
section
variable {W : Wd} {G : Ctx} {te : TE} {T : Ty} {t u v : TS} {tt : TT} {σ : L2.St} {H : Hp} {D : Ends}
theorem run_asg {i : Nat} (h : EV W G te T) (ok : W.ok H) (fr : Fr (W.v H) G σ) (k : ∀ v H', W.st H H' → T.p (W.v H') v → Fr (W.v H') (G.set i (some T)) (σ.set i (some v)) → u D (σ.set i (some v)) H') : tSeq (tAsg te (gName i)) u D σ H :=
  h.run ok fr fun v H' s p => k v H' s p ((fr.mo s.1).set p i)
theorem run_if (k : tt σ H fun b H1 => if b = true then tSeq t u D σ H1 else tSeq v u D σ H1) : tSeq (tIfS tt t v) u D σ H := k
theorem run_next (k : u D σ H) : tSeq tNext u D σ H := k
theorem run_assoc (k : tSeq t (tSeq u v) D σ H) : tSeq (tSeq t u) v D σ H := k
theorem run_if1 (k : tt σ H fun b H1 => if b = true then t D σ H1 else v D σ H1) : tIfS tt t v D σ H := k
theorem run_seq (k : t { D with nx := u D } σ H) : tSeq t u D σ H := k
theorem run_ret (h : EV W G te T) (ok : W.ok H) (fr : Fr (W.v H) G σ) (k : ∀ v H', W.st H H' → T.p (W.v H') v → D.rt v H') : tRet te D σ H := h.run ok fr k
end
/-! ## statements that go on -/
structure SB (W : Wd) (G : Ctx) (t : TS) (G' : Ctx) : Prop where
  run : ∀ {σ : L2.St} {H : Hp} {D : Ends}, W.ok H → Fr (W.v H) G σ → (∀ σ' H', W.st H H' → Fr (W.v H') G' σ' → D.nx σ' H') → t D σ H
section
variable {W : Wd} {G G' G'' : Ctx} {te : TE} {T : Ty} {t u v : TS} {tt : TT} {b : Bool}
theorem SB.next : SB W G tNext G := ⟨fun ok fr k => k _ _ ok.st fr⟩
theorem SB.seq (h : SB W G t G') (h' : SB W G' u G'') : SB W G (tSeq t u) G'' := ⟨fun ok fr k => h.run ok fr fun σ' H' s fr' => h'.run s.2 fr' fun σ2 H2 s2 fr2 => k σ2 H2 (s.trans s2) fr2⟩
theorem SB.ifF (h : EVT W G tt false) (h' : SB W G u G') : SB W G (tIfS tt t u) G' := ⟨fun ok fr k => h.run ok fr fun H1 s1 => h'.run s1.2 (fr.mo s1.1) fun σ' H' s fr' => k σ' H' (s1.trans s) fr'⟩
theorem SB.if_ (h : EVT W G tt b) (h1 : b = true → SB W G t G') (h2 : b = false → SB W G u G') : SB W G (tIfS tt t u) G' := ⟨fun ok fr k => h.run ok fr fun H1 s1 => by
  cases b with
  | true => exact (h1 rfl).run s1.2 (fr.mo s1.1) fun σ' H' s fr' => k σ' H' (s1.trans s) fr'
  | false => exact (h2 rfl).run s1.2 (fr.mo s1.1) fun σ' H' s fr' => k σ' H' (s1.trans s) fr'⟩
theorem SB.drop (h : EV W G te T) : SB W G (tDrop te) G := ⟨fun ok fr k => h.run ok fr fun v H1 s1 _ => k _ H1 s1 (fr.mo s1.1)⟩
theorem SB.asg {i : Nat} (h : EV W G te T) : SB W G (tAsg te (gName i)) (G.set i (some T)) := ⟨fun ok fr k => h.run ok fr fun v H1 s1 p => k _ H1 s1 ((fr.mo s1.1).set p i)⟩
theorem SB.to (h : SB W G t G') (e : ∀ H σ, Fr H G' σ → Fr H G'' σ) : SB W G t G'' := ⟨fun ok fr k => h.run ok fr fun σ' H' s fr' => k σ' H' s (e _ _ fr')⟩
theorem Fr.unset {H : Hp} {x : Option Ty} : ∀ {g : Ctx} {s : L2.St} {i : Nat}, Fr H (g.set i x) s → g[i]? = some none → Fr H g s
  | none :: g, _ :: s, 0, h, e => by
    cases x with
    | none => exact h
    | some T =>
      rename_i o
      cases o with
      | none => exact h.elim
      | some v => exact h.2
  | some T :: g, _ :: s, 0, h, e => by cases e
  | none :: g, _ :: s, i + 1, h, e => Fr.unset (g := g) (s := s) (i := i) h (by simpa using e)
  | some T :: g, some v :: s, i + 1, h, e => ⟨h.1, Fr.unset (g := g) (s := s) (i := i) h.2 (by simpa using e)⟩
  | some T :: g, none :: s, i + 1, h, e => h.elim
  | [], _, _, _, e => by simp at e
  | none :: g, [], 0, h, e => by
    cases x <;> exact h.elim
  | some T :: g, [], 0, h, e => by cases e
  | none :: g, [], i + 1, h, e => h.elim
  | some T :: g, [], i + 1, h, e => h.elim
theorem SB.for_ {wi : TI} {g : TG} {vs : List Nat} {α : Type} (L : List α) (X : α → Ty) (u : α → Ctx → Ctx) (hi : EVI W G wi (L.map X)) (hg : ∀ a ∈ L, GT g (X a) (u a) vs) (hb : ∀ a ∈ L, SB W (u a G) t G) : SB W G (tFor wi g t) G := ⟨fun {σ H0 D} ok fr k =>
  hi.run ok fr fun J H1 gd s1 hg1 I => by
    refine ⟨fun i m σ' H => m = L.length - i ∧ i ≤ L.length ∧ W.ok H ∧ Xt (W.v H1) (W.v H) ∧ Fr (W.v H) G σ', ⟨L.length, by simp, Nat.zero_le _, s1.2, Xt.refl _, fr.mo s1.1⟩, ?_⟩
    rintro i m σ' H ⟨rfl, hil, okH, x, frH⟩
    have gH := I.mo hg1 x
    by_cases hlt : i < L.length
    · refine .inr ⟨I.go gH (vis_sub _ _) (by rw [List.length_map]; exact hlt), fun σ2 H2 => (i + 1 ≤ L.length ∧ W.ok H2 ∧ Xt (W.v H1) (W.v H2) ∧ Fr (W.v H2) G σ2), fun σ2 H2 p => ⟨L.length - (i + 1), by omega, rfl, p⟩, fun y H2 hy => ?_⟩
      have ha : L[i]? = some L[i] := List.getElem?_eq_getElem hlt
      have hm : L[i] ∈ L := List.getElem_mem hlt
      obtain ⟨xH, py⟩ := I.yld okH gH (by rw [List.getElem?_map, ha]; rfl) hy
      have s2 := okH.pure xH
      refine hg _ hm W H2 _ _ y _ (frH.mo s2.1) py fun σ3 fr3 _ => ?_
      exact (hb _ hm).run s2.2 fr3 fun σ4 H4 s4 fr4 => ⟨hlt, s4.2, (x.trans s2.1).trans s4.1, fr4⟩
    · have e : i = L.length := by omega
      subst e
      exact .inl ⟨by have := I.stop gH (vis_sub _ _); rwa [List.length_map] at this, k _ _ (s1.trans ⟨x, okH⟩) frH⟩⟩
end
/-! ## tables, counters -/
theorem lk2 {k1 k2 : Str} {a b : V} (h : (k2 == k1) = false) : List.lookup k2 [(k1, a), (k2, b)] = some b := by simp [List.lookup, h]
abbrev tRow (r : List Nat) : Ty := Ty.tup (r.map tN)
abbrev tRows (R : List (List Nat)) : Ty := Ty.tup (R.map tRow)
abbrev tStand (S : List (Option Nat)) : Ty := Ty.tup (S.map tO)
def rTab (R : List (List Nat)) (H : Hp) (fs : List (Str × V)) : Prop := ∃ rv, fs = ([("rows", rv), ("size", nV R.length)] : List (Str × V)) ∧ (tRows R).p H rv
theorem rTab.mo {R : List (List Nat)} {H H' : Hp} {fs : List (Str × V)} (x : Xt H H') (h : rTab R H fs) : rTab R H' fs := by
  obtain ⟨rv, e, p⟩ := h
  exact ⟨rv, e, (tRows R).mo x p⟩
def rCnt (R : List (List Nat)) (d : Addr) (H : Hp) (fs : List (Str × V)) : Prop := ∃ rv wv, fs = ([("rows", rv), ("whole", wv), ("known", .ref d)] : List (Str × V)) ∧ (tRows R).p H rv
theorem rCnt.mo {R : List (List Nat)} {d : Addr} {H H' : Hp} {fs : List (Str × V)} (x : Xt H H') (h : rCnt R d H fs) : rCnt R d H' fs := by
  obtain ⟨rv, wv, e, p⟩ := h
  exact ⟨rv, wv, e, (tRows R).mo x p⟩
/-- a counter's dict, hidden -/
def Wd.cnt (W : Wd) (d : Addr) (R : List (List Nat)) : Wd where
  M := d :: W.M
  Φ := fun h H => W.Φ h H ∧ ∃ ks, H d = some (.dT ks) ∧ Vld R ks
  al := fun {h H a} hh ha => by
    rcases List.mem_cons.mp ha with e | ha
    · rw [e]
      obtain ⟨ks, e, _⟩ := hh.2
      exact ⟨_, e, trivial⟩
    · exact W.al hh.1 ha
  mo := fun {h h' H H'} hh x k => ⟨W.mo hh.1 x fun a ha => k a (List.mem_cons_of_mem _ ha), by rw [k d List.mem_cons_self]; exact hh.2⟩
structure HasCnt (W : Wd) (d : Addr) (R : List (List Nat)) : Prop where
  mem : d ∈ W.M
  get : ∀ {h H}, W.Φ h H → ∃ ks, H d = some (.dT ks) ∧ Vld R ks
  put : ∀ {h H ks}, W.Φ h H → Vld R ks → W.Φ h (upd H d (.dT ks))
theorem HasCnt.own {W : Wd} {d D : Addr} {R : List (List Nat)} {o : HO} {n : notT o} (c : HasCnt W d R) (hD : D ∉ W.M) : HasCnt (W.own D o n) d R where
  mem := List.mem_cons_of_mem _ c.mem
  get := fun h => c.get h.1
  put := fun {h H ks} hh v => ⟨c.put hh.1 v, by rw [upd_ne (show D ≠ d from fun e => hD (by rw [e]; exact c.mem))]; exact hh.2⟩
theorem HasCnt.cnt {W : Wd} {d : Addr} {R : List (List Nat)} (hd : d ∉ W.M) : HasCnt (W.cnt d R) d R where
  mem := List.mem_cons_self
  get := fun h => h.2
  put := fun {h H ks} hh v => ⟨W.mo hh.1 (Xt.refl _) fun a ha => upd_ne (show a ≠ d from fun e => hd (by rw [← e]; exact ha)), ks, upd_same, v⟩
section
variable {K : PySem.W.Frag} {mg : Str → Option Value}
/-- a table: an instance of Table or of RawTable -/
def tTab (T : Tp K mg) (R : List (List Nat)) : Ty := ⟨fun H v => (Ty.ins T.Table.C (rTab R) rTab.mo).p H v ∨ (Ty.ins T.RawTable.C (rTab R) rTab.mo).p H v, fun x h => h.imp (Ty.mo _ x) (Ty.mo _ x)⟩
def tCnt (T : Tp K mg) (R : List (List Nat)) (d : Addr) : Ty := Ty.ins T.Counter.C (rCnt R d) rCnt.mo
theorem has_rows (T : Tp K mg) (R : List (List Nat)) : HasF K "rows" (tTab T R) (tRows R) := fun H v h => by
  rcases h with ⟨a, dx, fs, rfl, e, rv, rfl, p⟩ | ⟨a, dx, fs, rfl, e, rv, rfl, p⟩
  · exact ⟨a, _, dx, _, rv, rfl, e, T.Table.cl, T.Table.na _ (by decide +kernel), rfl, p⟩
  · exact ⟨a, _, dx, _, rv, rfl, e, T.RawTable.cl, T.RawTable.na _ (by decide +kernel), rfl, p⟩
theorem has_size (T : Tp K mg) (R : List (List Nat)) : HasF K "size" (tTab T R) (tN R.length) := fun H v h => by
  rcases h with ⟨a, dx, fs, rfl, e, rv, rfl, p⟩ | ⟨a, dx, fs, rfl, e, rv, rfl, p⟩
  · exact ⟨a, _, dx, _, nV R.length, rfl, e, T.Table.cl, T.Table.na _ (by decide +kernel), lk2 (by decide +kernel), rfl⟩
  · exact ⟨a, _, dx, _, nV R.length, rfl, e, T.RawTable.cl, T.RawTable.na _ (by decide +kernel), lk2 (by decide +kernel), rfl⟩
theorem has_crows (T : Tp K mg) (R : List (List Nat)) (d : Addr) : HasF K "rows" (tCnt T R d) (tRows R) := fun H v h => by
  obtain ⟨a, dx, fs, rfl, e, rv, wv, rfl, p⟩ := h
  exact ⟨a, _, dx, _, rv, rfl, e, T.Counter.cl, T.Counter.na _ (by decide +kernel), rfl, p⟩
theorem isI_cnt (T : Tp K mg) (R : List (List Nat)) (d : Addr) {m : Str} (hm : ∀ f ∈ (["rows", "whole", "known"] : List Str), m ≠ f) : IsI K T.Counter.C m (tCnt T R d) := fun H v h => by
  obtain ⟨a, dx, fs, rfl, e, rv, wv, rfl, p⟩ := h
  refine ⟨a, dx, _, rfl, e, ?_⟩
  have h1 : (m == ("rows" : Str)) = false := beq_eq_false_iff_ne.mpr (hm _ (by simp))
  have h2 : (m == ("whole" : Str)) = false := beq_eq_false_iff_ne.mpr (hm _ (by simp))
  have h3 : (m == ("known" : Str)) = false := beq_eq_false_iff_ne.mpr (hm _ (by simp))
  simp only [List.lookup, h1, h2, h3]
/-- the promise of a def that reckons with a counter -/
def cSp {ι : Type} (R : ι → List (List Nat)) (args : ι → Addr → List Ty) (ok : ι → Prop) (res : ι → Ty) : Sp := fun vs H Q _ => ∃ (i : ι) (W : Wd) (d : Addr), ok i ∧ HasCnt W d (R i) ∧ W.ok H ∧ Al (W.v H) (args i d) vs ∧
  ∀ v H', W.st H H' → (res i).p (W.v H') v → Q v H'
theorem EV.callC {ι : Type} {Rr : ι → List (List Nat)} {args : ι → Addr → List Ty} {ok : ι → Prop} {res : ι → Ty} {W : Wd} {G : Ctx} {E : XK} {ta : TA} {ts : List Ty} (i : ι) {d : Addr} (c : HasCnt W d (Rr i)) (h : EVA W G ta ts) (hi : ok i) (e : ts = args i d := by rfl) :
    EV W G (tCall (cSp Rr args ok res) [] E ta) (res i) := ⟨fun okW fr k =>
  h.run okW fr fun vs H1 s1 p1 => by
    subst e
    exact ⟨i, W, d, hi, c, s1.2, by rw [List.append_nil]; exact p1, fun v H' s p => k v H' (s1.trans s) p⟩⟩
theorem EV.methC {ι : Type} {Rr : ι → List (List Nat)} {args : ι → Addr → List Ty} {ok : ι → Prop} {res : ι → Ty} {W : Wd} {G : Ctx} {C : Addr} {m : Str} {E : XK} {to : TE} {ta : TA} {T : Ty} {ts : List Ty} (i : ι) {d : Addr} (c : HasCnt W d (Rr i)) (ho : EV W G to T) (hI : IsI K C m T) (h : EVA W G ta ts) (hi : ok i)
    (e : T :: ts = args i d := by rfl) : EV W G (tMeth C m (cSp Rr args ok res) [] E to ta) (res i) := ⟨fun okW fr k =>
  ho.run okW fr fun v H0 s0 p0 => by
    obtain ⟨a, dx, fs, rfl, ha, hl⟩ := hI _ _ p0
    refine ⟨a, dx, fs, rfl, (vis_some ha).2, hl, ?_⟩
    refine h.run s0.2 (fr.mo s0.1) fun vs H1 s1 p1 => ⟨i, W, d, hi, c, s1.2, ?_, fun v H' s p => k v H' ((s0.trans s1).trans s) p⟩
    rw [← e, List.append_nil]
    exact ⟨T.mo s1.1 p0, p1⟩⟩
end
end Fo
set_option Elab.async false
set_option linter.all false
set_option maxRecDepth 100000
set_option maxHeartbeats 1000000
namespace Fo
open PySem PySem.Spec PyProof.Rows L2
local macro_rules | `(tactic| walk_at "ev") => `(tactic| first
  | ((with_reducible apply EV.var); rfl)
  | (with_reducible exact EV.cst)
  | (with_reducible exact EVA.nil)
  | (with_reducible exact EVO.none)
  | ((with_reducible apply EVO.some); (· walk_at "ev"))
  | ((with_reducible apply EVA.cons); (· walk_at "ev"); (· walk_at "ev"))
  | ((with_reducible apply EV.op); (· walk_at "ev"); (· walk_at "ev"); (· walk_at "rv"))
  | ((with_reducible apply EV.un); (· walk_at "ev"); (· exact RU.neg))
  | ((with_reducible apply EV.chain); (· walk_at "ev"); (· walk_at "ev"); (· walk_at "rv"); (· walk_at "ev"); (· walk_at "rv"))
  | ((with_reducible apply EV.cb); (· walk_at "ev"); (· walk_at "rv"))
  | ((with_reducible apply EV.bits); (· walk_at "ev"))
  | ((with_reducible apply EV.slT); (· walk_at "ev"); (· walk_at "ev"); (· walk_at "ev"))
  | ((with_reducible apply EV.isN); (· walk_at "ev"))
  | ((with_reducible apply EV.notN); (· walk_at "ev"))
  | ((with_reducible apply EV.notV); (· walk_at "ev"))
  | ((with_reducible apply EV.andV); (· walk_at "ev"); (· intro _; walk_at "ev"))
  | ((with_reducible apply EVT.test); (· walk_at "ev"))
  | ((with_reducible apply EVT.B); (· walk_at "ev"))
  | ((with_reducible apply EVT.not); (· walk_at "ev"))
  | ((with_reducible apply EV.tup); (· walk_at "ev"); (· decide))
  | ((with_reducible apply EV.lst); (· walk_at "ev"); (· decide))
  | ((with_reducible apply EVI.list); (· walk_at "ev"))
  | ((with_reducible apply EVI.tup); (· walk_at "ev"))
  | ((with_reducible apply EVI.enum); (· walk_at "ev"))
  | ((with_reducible apply EVI.enumT); (· walk_at "ev"))
  | ((with_reducible apply EVI.zipT); (· walk_at "ev"); (· walk_at "ev")))
local macro_rules | `(tactic| walk_at "rv") => `(tactic| first
  | exact RV.I0
  | exact RV.oneShl (by decide)
  | exact RV.shrN
  | exact RV.odd
  | exact RC.isi_ii
  | exact RC.isi_ib
  | exact RC.isi_tt
  | exact RC.isi_ss
  | exact RC.lenT
  | exact RC.lenL
  | exact RC.sumF
  | exact RC.allF
  | exact RV.inTN
  | exact RV.inLN
  | exact RV.inTO
  | exact RC.tupOf
  | exact RC.lstOfT
  | exact RC.lstOfL
  | exact RC.int
  | exact RC.intB
  | exact RC.abs
  | exact RV.Eq rfl
  | exact RV.Ne rfl)
def lsb (n : Nat) : Nat := (nums n).headD 0
theorem nums_sub : ∀ P < 16, ∀ p < 4, p ∈ nums P → P - 2 ^ p < 16 ∧ nums (P - 2 ^ p) = (nums P).erase p ∧ 2 ^ p ≤ P := by decide
theorem lsb_bits : ∀ n : Nat, n < 16 → 0 < n → Builtin.Int.intBits (Builtin.bitAnd (n : Int) (-(n : Int))) = lsb n + 1 := by decide +kernel
def mask (l : List Nat) : Nat := (l.map fun i => 2 ^ i).sum
section
variable {P : Program} {w : World} {K : PySem.W.Frag} {mg : Str → Option Value} {base : Heap}
abbrev sp_is_integer : Sp := pSp (fun i : Int => [tInt i]) (fun _ => True) (fun _ => tBl true)
theorem ok_is_integer (T : Tp K mg) : FnOk P w K mg base CX0 1 T.is_integer.a T.is_integer.fd p_is_integer sp_is_integer :=
  pure_ok T.is_integer.F sc_is_integer (fun _ => rfl) fun cdv A outer s H E hr => by
    have nd := sc_is_integer.nd
    refine ⟨_, (pss_one (ps_ret (pe_and (pe_callB call_isi (by rfl) T.b_isinstance (by decide +kernel) (pa_cons (pv 0) (pa_cons (pe_bltn (v := .ty "int") (by rfl) T.b_int (by decide +kernel) rfl) pa_nil))) (pe_one (pe_not (pe_callB call_isi (by rfl) T.b_isinstance (by decide +kernel) (pa_cons (pv 0) (pa_cons (pe_bltn (v := .ty "bool") (by rfl) T.b_bool (by decide +kernel) rfl) pa_nil)))))))), fun W i _ => ?_⟩
    apply ST.retTo
    · walk_at "ev"
    · rfl
abbrev sp_is_within : Sp := pSp (fun i : Int × Int × Int => [tInt i.1, tInt i.2.1, tInt i.2.2]) (fun _ => True) (fun i => tBl (decide (i.2.1 ≤ i.1) && decide (i.1 ≤ i.2.2)))
theorem ok_is_within (T : Tp K mg) : FnOk P w K mg base CX0 2 T.is_within.a T.is_within.fd p_is_within sp_is_within :=
  pure_ok T.is_within.F sc_is_within (fun _ => rfl) fun cdv A outer s H E hr => by
    have nd := sc_is_within.nd
    refine ⟨_, (pss_one (ps_ret (pe_and (pe_call (ok_is_integer T) (hr.mono (by first | decide | omega)) rfl T.is_integer.m T.is_integer.F.kp T.is_integer.b .nil pass0 (pa_cons (pv 0) pa_nil)) (pe_one (pe_chain op_le op_le (pv 1) (pv 0) (pv 2)))))), fun W i _ => ?_⟩
    apply ST.retTo
    · apply EV.andV
      · exact EV.call i.1 (by walk_at "ev") trivial
      · intro _
        walk_at "ev"
    · rfl
abbrev sp_is_pair : Sp := pSp (fun i : Ty × Ty => [Ty.tup [i.1, i.2]]) (fun _ => True) (fun _ => tBl true)
theorem ok_is_pair (T : Tp K mg) : FnOk P w K mg base CX0 1 T.is_pair.a T.is_pair.fd p_is_pair sp_is_pair :=
  pure_ok T.is_pair.F sc_is_pair (fun _ => rfl) fun cdv A outer s H E hr => by
    have nd := sc_is_pair.nd
    refine ⟨_, (pss_one (ps_ret (pe_and (pe_callB call_isi (by rfl) T.b_isinstance (by decide +kernel) (pa_cons (pv 0) (pa_cons (pe_bltn (v := .ty "tuple") (by rfl) T.b_tuple (by decide +kernel) rfl) pa_nil))) (pe_one (pe_cmpR op_eq (pe_callB call_len_seq (by rfl) T.b_len PySem.boot_len (pa_cons (pv 0) pa_nil)) pe_int (nomark _)))))), fun W i _ => ?_⟩
    apply ST.retTo
    · walk_at "ev"
    · rfl
abbrev sp_without : Sp := pSp (fun i : Nat × Nat => [tN i.1, tN i.2]) (fun i => i.2 < 16 ∧ 2 ^ i.2 ≤ i.1) (fun i => tN (i.1 - 2 ^ i.2))
theorem ok_without (T : Tp K mg) : FnOk P w K mg base CX0 1 T.without.a T.without.fd p_without sp_without :=
  pure_ok T.without.F sc_without (fun _ => rfl) fun cdv A outer s H E hr => by
    have nd := sc_without.nd
    refine ⟨_, (pss_one (ps_ret (pe_op op_sub (pv 0) (pe_op op_oneShl pe_int (pv 1))))), fun W i hi => ?_⟩
    obtain ⟨h1, h2⟩ := hi
    apply ST.retTo
    · apply EV.op
      · walk_at "ev"
      · apply EV.op
        · walk_at "ev"
        · walk_at "ev"
        · exact RV.oneShl (Nat.le_trans (Nat.le_of_lt h1) (by decide))
      · walk_at "rv"
    · show Ty.is _ = Ty.is _
      congr 2
      omega
abbrev sp_has : Sp := pSp (fun i : Nat × Nat => [tN i.1, tN i.2]) (fun _ => True) (fun i => tBl (i.1.testBit i.2))
theorem testBit_eq (a b : Nat) : decide (V.int ((a / 2 ^ b % 2 : Nat) : Int) = V.int 1) = a.testBit b := by
  rw [Nat.testBit_eq_decide_div_mod_eq]
  by_cases h : a / 2 ^ b % 2 = 1
  · rw [h]; rfl
  · rw [decide_eq_false h]
    refine decide_eq_false fun e => h ?_
    injection e with e
    omega
theorem ok_has (T : Tp K mg) : FnOk P w K mg base CX0 1 T.has.a T.has.fd p_has sp_has :=
  pure_ok T.has.F sc_has (fun _ => rfl) fun cdv A outer s H E hr => by
    have nd := sc_has.nd
    refine ⟨_, (pss_one (ps_ret (pe_cmpR op_eq (pe_op op_odd (pe_op op_shrN (pv 0) (pv 1)) pe_int) pe_int (nomark _)))), fun W i hi => ?_⟩
    apply ST.retTo
    · walk_at "ev"
    · exact congrArg tBl (testBit_eq i.1 i.2)
abbrev sp_least_of : Sp := pSp (fun i : Nat => [tN i]) (fun i => 0 < i ∧ i < 16) (fun i => tN (lsb i))
theorem ok_least_of (T : Tp K mg) : FnOk P w K mg base CX0 1 T.least_of.a T.least_of.fd p_least_of sp_least_of :=
  pure_ok T.least_of.F sc_least_of (fun _ => rfl) fun cdv A outer s H E hr => by
    have nd := sc_least_of.nd
    refine ⟨_, (pss_one (ps_ret (pe_op op_sub (pe_bits (pe_op op_and (pv 0) (pe_un un_neg (pv 0)))) pe_int))), fun W i hi => ?_⟩
    apply ST.retTo
    · walk_at "ev"
    · have h := lsb_bits i hi.2 hi.1
      show Ty.is (V.int (((Builtin.Int.intBits (Builtin.bitAnd (i : Int) (-(i : Int))) : Nat) : Int) - 1)) = Ty.is (V.int (lsb i : Int))
      rw [h]
      congr 2
      omega
abbrev sp_bits : Sp := pSp (fun i : List Nat => [Ty.lst (i.map tN)]) (fun i => i.length ≤ 12 ∧ ∀ x ∈ i, x < 16) (fun i => tN (mask i))
theorem ok_bits (T : Tp K mg) : FnOk P w K mg base CX0 1 T.bits.a T.bits.fd p_bits sp_bits :=
  pure_ok T.bits.F sc_bits (fun _ => rfl) fun cdv A outer s H E hr => by
    have nd := sc_bits.nd
    refine ⟨_, (pss_one (ps_ret (pe_callB (cr_sum rfl) (by rfl) T.b_sum (by decide +kernel) (pa_cons (pe_lc (own := [("number", 1)]) rfl nd (pi_list (pv 0)) (blkOk_by (own := [("number", 1)]) (N := n_bits) (sc := defScope s_bits) (by decide +kernel)) (fun _ _ _ _ _ => (pg_name (i := 1) nd rfl (Or.inl rfl))) (fun _ _ _ _ _ => pts_nil) (fun _ _ _ _ _ => (pe_op op_oneShl pe_int (pv 1)))) pa_nil)))), fun W i hi => ?_⟩
    obtain ⟨h1, h2⟩ := hi
    apply ST.retTo
    · apply EV.cb
      · apply EVA.cons
        · refine EV.lcY i tN (fun n => tN (2 ^ n)) _ (by walk_at "ev") (fun a _ => GT.name (by decide)) (fun W' a ha => ?_) (by omega)
          apply EV.op
          · walk_at "ev"
          · walk_at "ev"
          · exact RV.oneShl (by have := h2 a ha; omega)
        · walk_at "ev"
      · walk_at "rv"
    · rfl
end
end Fo
set_option Elab.async false
set_option linter.all false
set_option maxRecDepth 100000
set_option maxHeartbeats 1000000
namespace Fo
open PySem PySem.Spec PyProof.Rows L2
local macro_rules | `(tactic| walk_at "ev") => `(tactic| first
  | ((with_reducible apply EV.var); rfl)
  | (with_reducible exact EV.cst)
  | (with_reducible exact EVA.nil)
  | (with_reducible exact EVO.none)
  | ((with_reducible apply EVO.some); (· walk_at "ev"))
  | ((with_reducible apply EVA.cons); (· walk_at "ev"); (· walk_at "ev"))
  | ((with_reducible apply EV.op); (· walk_at "ev"); (· walk_at "ev"); (· walk_at "rv"))
  | ((with_reducible apply EV.un); (· walk_at "ev"); (· exact RU.neg))
  | ((with_reducible apply EV.chain); (· walk_at "ev"); (· walk_at "ev"); (· walk_at "rv"); (· walk_at "ev"); (· walk_at "rv"))
  | ((with_reducible apply EV.cb); (· walk_at "ev"); (· walk_at "rv"))
  | ((with_reducible apply EV.bits); (· walk_at "ev"))
  | ((with_reducible apply EV.slT); (· walk_at "ev"); (· walk_at "ev"); (· walk_at "ev"))
  | ((with_reducible apply EV.isN); (· walk_at "ev"))
  | ((with_reducible apply EV.notN); (· walk_at "ev"))
  | ((with_reducible apply EV.notV); (· walk_at "ev"))
  | ((with_reducible apply EV.andV); (· walk_at "ev"); (· intro _; walk_at "ev"))
  | ((with_reducible apply EVT.test); (· walk_at "ev"))
  | ((with_reducible apply EVT.B); (· walk_at "ev"))
  | ((with_reducible apply EVT.not); (· walk_at "ev"))
  | ((with_reducible apply EV.tup); (· walk_at "ev"); (· decide))
  | ((with_reducible apply EV.lst); (· walk_at "ev"); (· decide))
  | ((with_reducible apply EVI.list); (· walk_at "ev"))
  | ((with_reducible apply EVI.tup); (· walk_at "ev"))
  | ((with_reducible apply EVI.enum); (· walk_at "ev"))
  | ((with_reducible apply EVI.enumT); (· walk_at "ev"))
  | ((with_reducible apply EVI.zipT); (· walk_at "ev"); (· walk_at "ev")))
local macro_rules | `(tactic| walk_at "rv") => `(tactic| first
  | exact RV.I0
  | exact RV.oneShl (by decide)
  | exact RV.shrN
  | exact RV.odd
  | exact RC.isi_ii
  | exact RC.isi_ib
  | exact RC.isi_tt
  | exact RC.isi_ss
  | exact RC.lenT
  | exact RC.lenL
  | exact RC.sumF
  | exact RC.allF
  | exact RV.inTN
  | exact RV.inLN
  | exact RV.inTO
  | exact RC.tupOf
  | exact RC.lstOfT
  | exact RC.lstOfL
  | exact RC.int
  | exact RC.intB
  | exact RC.abs
  | exact RV.Eq rfl
  | exact RV.Ne rfl)
section
variable {P : Program} {w : World} {K : PySem.W.Frag} {mg : Str → Option Value} {base : Heap}
theorem putF2 {k1 k2 : Str} {a b : V} (h : ¬ k1 = k2) : putF k2 b [(k1, a)] = [(k1, a), (k2, b)] := by
  show (if k1 = k2 then _ else _) = _
  rw [if_neg h]
  rfl
theorem putF3 {k1 k2 k3 : Str} {a b c : V} (h : ¬ k1 = k3) (h' : ¬ k2 = k3) : putF k3 c [(k1, a), (k2, b)] = [(k1, a), (k2, b), (k3, c)] := by
  show (if k1 = k3 then _ else _) = _
  rw [if_neg h]
  show (k1, a) :: (if k2 = k3 then _ else _) = _
  rw [if_neg h']
  rfl
theorem asc_all {r : List Nat} (h : r.Pairwise (· < ·)) : ((r.zip r.tail).all fun p => decide ((p.1 : Int) < (p.2 : Int))) = true := by
  induction r with
  | nil => rfl
  | cons a r ih =>
    cases r with
    | nil => rfl
    | cons b r =>
      have h2 := List.pairwise_cons.mp h
      show (decide ((a : Int) < (b : Int)) && ((b :: r).zip r).all _) = true
      have ih2 := ih h2.2
      rw [List.tail_cons] at ih2
      rw [ih2, decide_eq_true (by have := h2.1 b List.mem_cons_self; omega)]
      rfl
theorem ok_keep {C : Addr} (D : Df K "keep" "Table.keep" s_Table_keep p_Table_keep) (T : Tp K mg) (cl : Cls K C) (na1 : NoAttr K C "rows") (na2 : NoAttr K C "size") :
    FnOk P w K mg base CX0 1 D.a D.fd p_Table_keep (iSp C (fun R : List (List Nat) => [tRows R]) (fun _ => True) rTab) := by
  refine D.F.ok sc_Table_keep (fun vs H Q E h => ?_) (fun cdv A outer s H vs Q E hr h => ?_)
  · obtain ⟨R, W, p, dx, ws, _, _, rfl, _, al, _⟩ := h
    obtain ⟨v, rfl, _⟩ := al1 al
    rfl
  · obtain ⟨R, W, p, dx, ws, _, hp, rfl, ok, al, k⟩ := h
    obtain ⟨rv, rfl, pr⟩ := al1 al
    have nd := sc_Table_keep.nd
    refine ⟨_, (pss_cons (ps_fld (pv 0) (pv 1) rfl) (pss_one (ps_fld (pv 0) (pe_callB call_len_seq (by rfl) T.b_len PySem.boot_len (pa_cons (pv 1) pa_nil)) rfl))), ?_⟩
    refine fld_seq (G := [none, some (tRows R)]) (T := tRows R) hp rfl ok ⟨pr, trivial⟩ (by walk_at "ev") cl na1 (by show 0 < 1000; decide) fun v H' ok' x' p' => ?_
    have pr' := (tRows R).mo x' pr
    refine fld_run (G := [none, some (tRows R)]) (T := tN (R.map tRow).length) hp rfl ok' ⟨pr', trivial⟩ (by walk_at "ev") cl na2 (by show 1 < 1000; decide) fun v2 H2 ok2 x2 p2 => ?_
    cases p2
    refine k H2 _ ok2 (x'.trans x2) ⟨v, ?_, (tRows R).mo x2 p'⟩
    rw [show putF "rows" v [] = ([("rows", v)] : List (Str × V)) from rfl, putF2 (by decide +kernel), List.length_map]
    rfl
abbrev sp_is_person (T : Tp K mg) : Sp := pSp (fun i : List (List Nat) × Int => [tTab T i.1, tInt i.2]) (fun _ => True) (fun i => tBl (decide (0 ≤ i.2) && decide (i.2 ≤ (i.1.length : Int) - 1)))
theorem ok_is_person (T : Tp K mg) : FnOk P w K mg base CX0 3 T.is_person.a T.is_person.fd p_is_person (sp_is_person T) :=
  pure_ok T.is_person.F sc_is_person (fun _ => rfl) fun cdv A outer s H E hr => by
    have nd := sc_is_person.nd
    refine ⟨_, (pss_one (ps_ret (pe_call (ok_is_within T) (hr.mono (by first | decide | omega)) rfl T.is_within.m T.is_within.F.kp T.is_within.b .nil pass0 (pa_cons (pv 1) (pa_cons pe_int (pa_cons (pe_op op_sub (pe_fld (pv 0) rfl) pe_int) pa_nil)))))), fun W i _ => ?_⟩
    refine ST.ret (EV.call (i.2, 0, (i.1.length : Int) - 1) (EVA.cons (by walk_at "ev") (EVA.cons (by walk_at "ev") (EVA.cons (EV.op (EV.fld (by walk_at "ev") (has_size T i.1)) (by walk_at "ev") (by walk_at "rv")) EVA.nil))) trivial)
theorem ok_check_person (T : Tp K mg) : FnOk P w K mg base CX0 4 T.check_person.a T.check_person.fd p_check_person (pSp (fun i : List (List Nat) × Nat => [tTab T i.1, tN i.2]) (fun i => i.2 < i.1.length) (fun _ => tNon)) :=
  pure_ok T.check_person.F sc_check_person (fun _ => rfl) fun cdv A outer s H E hr => by
    have nd := sc_check_person.nd
    refine ⟨_, (pss_one (ps_if (pt_not (pt_val (pe_call (ok_is_person T) (hr.mono (by first | decide | omega)) rfl T.is_person.m T.is_person.F.kp T.is_person.b .nil pass0 (pa_cons (pv 0) (pa_cons (pv 1) pa_nil))))) (pss_one ps_never) pss_nil)), fun W i hi => ?_⟩
    refine ST.if1 (EVT.not (EVT.B (EV.call (i.1, (i.2 : Int)) (by walk_at "ev") trivial))) (fun h => ?_) (fun _ => ST.next fun _ => rfl)
    simp at h
    omega
theorem ok_check_thing (T : Tp K mg) : FnOk P w K mg base CX0 4 T.check_thing.a T.check_thing.fd p_check_thing (pSp (fun i : List (List Nat) × Nat => [tTab T i.1, tN i.2]) (fun i => i.2 < i.1.length) (fun _ => tNon)) :=
  pure_ok T.check_thing.F sc_check_thing (fun _ => rfl) fun cdv A outer s H E hr => by
    have nd := sc_check_thing.nd
    refine ⟨_, (pss_one (ps_if (pt_not (pt_val (pe_call (ok_is_person T) (hr.mono (by first | decide | omega)) rfl T.is_person.m T.is_person.F.kp T.is_person.b .nil pass0 (pa_cons (pv 0) (pa_cons (pv 1) pa_nil))))) (pss_one ps_never) pss_nil)), fun W i hi => ?_⟩
    refine ST.if1 (EVT.not (EVT.B (EV.call (i.1, (i.2 : Int)) (by walk_at "ev") trivial))) (fun h => ?_) (fun _ => ST.next fun _ => rfl)
    simp at h
    omega
theorem ok_check_pair (T : Tp K mg) : FnOk P w K mg base CX0 5 T.check_pair.a T.check_pair.fd p_check_pair (pSp (fun i : List (List Nat) × Nat × Nat => [tTab T i.1, tN i.2.1, tN i.2.2]) (fun i => i.2.1 < i.1.length ∧ i.2.2 < i.1.length) (fun _ => tNon)) :=
  pure_ok T.check_pair.F sc_check_pair (fun _ => rfl) fun cdv A outer s H E hr => by
    have nd := sc_check_pair.nd
    refine ⟨_, (pss_cons (ps_expr (pe_call (ok_check_person T) (hr.mono (by first | decide | omega)) rfl T.check_person.m T.check_person.F.kp T.check_person.b .nil pass0 (pa_cons (pv 0) (pa_cons (pv 1) pa_nil)))) (pss_one (ps_expr (pe_call (ok_check_thing T) (hr.mono (by first | decide | omega)) rfl T.check_thing.m T.check_thing.F.kp T.check_thing.b .nil pass0 (pa_cons (pv 0) (pa_cons (pv 2) pa_nil)))))), fun W i hi => ?_⟩
    refine ST.drop (EV.call (i.1, i.2.1) (by walk_at "ev") hi.1) (ST.drop1 (EV.call (i.1, i.2.2) (by walk_at "ev") hi.2) fun _ => rfl)
theorem ok_are_ascending (T : Tp K mg) : FnOk P w K mg base CX0 1 T.are_ascending.a T.are_ascending.fd p_are_ascending (pSp (fun r : List Nat => [tRow r]) (fun r => r.Pairwise (· < ·) ∧ r.length ≤ 100) (fun _ => tBl true)) :=
  pure_ok T.are_ascending.F sc_are_ascending (fun _ => rfl) fun cdv A outer s H E hr => by
    have nd := sc_are_ascending.nd
    refine ⟨_, (pss_one (ps_ret (pe_callB (cr_all rfl) (by rfl) T.b_all (by decide +kernel) (pa_cons (pe_lc (own := [("one", 1), ("other", 2)]) rfl nd (RZ.pi_zipA (by rfl) T.b_zip (pa_cons (pv 0) (pa_cons (pe_slice sl_tupA (pv 0) (po_some pe_int) po_none) pa_nil))) (blkOk_by (own := [("one", 1), ("other", 2)]) (N := n_are_ascending) (sc := defScope s_are_ascending) (by decide +kernel)) (fun _ _ _ _ _ => (pg_tupC (K := K) (n := 2) rfl (by rfl) (pgs_cons (pg_name (i := 1) nd rfl (Or.inl rfl)) (pgs_cons (pg_name (i := 2) nd rfl (Or.inl rfl)) pgs_nil)))) (fun _ _ _ _ _ => pts_nil) (fun _ _ _ _ _ => (pe_cmpR op_lt (pv 1) (pv 2) (nomark _)))) pa_nil)))), fun W r hi => ?_⟩
    apply ST.retTo
    · apply EV.cb
      · apply EVA.cons
        · refine EV.lcY (r.zip r.tail) (fun p => Ty.tup [tN p.1, tN p.2]) (fun p => tBl (decide ((p.1 : Int) < (p.2 : Int)))) _ ?_ (fun a _ => GT.two (by decide) (by decide)) (fun W' a ha => ?_) (by rw [List.length_zip]; have := hi.2; omega)
          · refine EVI.eq (EVI.zipT (EVA.cons (EV.var rfl) (EVA.cons (EV.slT (EV.var rfl) (EVO.some (i := ((1 : Nat) : Int)) EV.cst) EVO.none) EVA.nil))) ?_
            rw [cut_from, ← List.map_drop, List.drop_one, List.zip_map, List.map_map]
            rfl
          · walk_at "ev"
        · walk_at "ev"
      · walk_at "rv"
    · exact congrArg tBl (asc_all hi.1)
abbrev sp_is_lot_of : Sp := pSp (fun i : List Nat × Nat => [tRow i.1, tN i.2]) (fun i => i.1.Pairwise (· < ·) ∧ i.1.length ≤ 100 ∧ ∀ x ∈ i.1, x < i.2) (fun _ => tBl true)
theorem ok_is_lot_of (T : Tp K mg) : FnOk P w K mg base CX0 3 T.is_lot_of.a T.is_lot_of.fd p_is_lot_of sp_is_lot_of :=
  pure_ok T.is_lot_of.F sc_is_lot_of (fun _ => rfl) fun cdv A outer s H E hr => by
    have nd := sc_is_lot_of.nd
    refine ⟨_, (pss_cons (ps_if (PW.pt (pw_or (pt_not (pt_val (pe_callB call_isi (by rfl) T.b_isinstance (by decide +kernel) (pa_cons (pv 0) (pa_cons (pe_bltn (v := .ty "tuple") (by rfl) T.b_tuple (by decide +kernel) rfl) pa_nil))))) (pw_or1 (pt_not (pt_val (pe_callB (cr_all rfl) (by rfl) T.b_all (by decide +kernel) (pa_cons (pe_lc (own := [("one", 2)]) rfl nd (pi_tup (pv 0)) (blkOk_by (own := [("one", 2)]) (N := n_is_lot_of) (sc := defScope s_is_lot_of) (by decide +kernel)) (fun _ _ _ _ _ => (pg_name (i := 2) nd rfl (Or.inl rfl))) (fun _ _ _ _ _ => pts_nil) (fun _ _ _ _ _ => (pe_call (ok_is_within T) (hr.mono (by first | decide | omega)) rfl T.is_within.m T.is_within.F.kp T.is_within.b .nil pass0 (pa_cons (pv 2) (pa_cons pe_int (pa_cons (pe_op op_sub (pv 1) pe_int) pa_nil)))))) pa_nil))))))) (pss_one (ps_ret pe_bl)) pss_nil) (pss_one (ps_ret (pe_call (ok_are_ascending T) (hr.mono (by first | decide | omega)) rfl T.are_ascending.m T.are_ascending.F.kp T.are_ascending.b .nil pass0 (pa_cons (pv 0) pa_nil))))), fun W i hi => ?_⟩
    refine ST.if_ (b := false) (EVT.eq (EVT.or (EVT.not (EVT.B (EV.cb (by walk_at "ev") RC.isi_tt))) fun _ => EVT.not (EVT.B (EV.cb (EVA.cons (EV.lcY i.1 tN (fun x => tBl (decide (0 ≤ (x : Int)) && decide ((x : Int) ≤ (i.2 : Int) - 1))) _ (by walk_at "ev") (fun a _ => GT.name (by decide)) (fun W' a ha => ?_) (by have := hi.2.1; omega)) EVA.nil) RC.allF))) ?_) (fun h => by cases h) fun _ => ST.skip (ST.ret (EV.call i.1 (by walk_at "ev") ⟨hi.1, hi.2.1⟩))
    · exact EV.call ((a : Int), 0, (i.2 : Int) - 1) (by walk_at "ev") trivial
    · have e : (i.1.all fun x => decide (0 ≤ (x : Int)) && decide ((x : Int) ≤ (i.2 : Int) - 1)) = true := by
        rw [List.all_eq_true]
        intro x hx
        have := hi.2.2 x hx
        simp
        omega
      rw [e]
      rfl
/-- rows of a table: as the class asks -/
def RowsOk (R : List (List Nat)) : Prop := 1 ≤ R.length ∧ R.length ≤ 4 ∧ ∀ r ∈ R, r.Pairwise (· < ·) ∧ ∀ x ∈ r, x < R.length
theorem asc_len {n : Nat} : ∀ {r : List Nat} {a : Nat}, r.Pairwise (· < ·) → (∀ x ∈ r, a ≤ x ∧ x < n) → r.length ≤ n - a
  | [], _, _, _ => Nat.zero_le _
  | x :: r, a, h, k => by
    have h2 := List.pairwise_cons.mp h
    have ih := asc_len (n := n) (r := r) (a := x + 1) h2.2 fun y hy => ⟨h2.1 y hy, (k y (List.mem_cons_of_mem _ hy)).2⟩
    have := k x List.mem_cons_self
    rw [List.length_cons]
    omega
theorem RowsOk.len4 {R : List (List Nat)} (h : RowsOk R) {r : List Nat} (hr : r ∈ R) : r.length ≤ 4 := by
  have h3 := asc_len (n := R.length) (a := 0) (h.2.2 r hr).1 fun x hx => ⟨Nat.zero_le _, (h.2.2 r hr).2 x hx⟩
  have := h.2.1
  omega
abbrev ar_rows : List (List Nat) → List Ty := fun R => [tRows R]
theorem ok_Table_init (T : Tp K mg) : FnOk P w K mg base CX0 4 T.Table.a T.Table.fd p_Table_init (iSp T.Table.C ar_rows RowsOk rTab) := by
  refine T.Table.F.ok sc_Table_init (fun vs H Q E h => ?_) (fun cdv A outer s H vs Q E hr h => ?_)
  · obtain ⟨R, W, p, dx, ws, _, _, rfl, _, al, _⟩ := h
    obtain ⟨v, rfl, _⟩ := al1 al
    rfl
  · obtain ⟨R, W, p, dx, ws, hR, hp, rfl, ok, al, k⟩ := h
    obtain ⟨rv, rfl, pr⟩ := al1 al
    have nd := sc_Table_init.nd
    refine ⟨_, (pss_cons (ps_if (PW.pt (pw_or (pt_not (pt_val (pe_callB call_isi (by rfl) T.b_isinstance (by decide +kernel) (pa_cons (pv 1) (pa_cons (pe_bltn (v := .ty "tuple") (by rfl) T.b_tuple (by decide +kernel) rfl) pa_nil))))) (pw_or1 (pt_not (pt_chain op_le op_le pe_int (pe_callB call_len_seq (by rfl) T.b_len PySem.boot_len (pa_cons (pv 1) pa_nil)) (pe_glob (v := .int 12) rfl T.mMOST ⟨_, rfl⟩)))))) (pss_one ps_never) pss_nil) (pss_cons (ps_for PassesOwn.never rfl (pi_enumT (by rfl) T.b_enumerate (pa_cons (pv 1) pa_nil)) (pg_tup (by rfl) (pgs_cons (pg_name (i := 2) nd rfl (Or.inl rfl)) (pgs_cons (pg_name (i := 3) nd rfl (Or.inl rfl)) pgs_nil))) (pss_one (ps_if (pt_not (pt_val (pe_call (ok_is_lot_of T) (hr.mono (by first | decide | omega)) rfl T.is_lot_of.m T.is_lot_of.F.kp T.is_lot_of.b .nil pass0 (pa_cons (pv 3) (pa_cons (pe_callB call_len_seq (by rfl) T.b_len PySem.boot_len (pa_cons (pv 1) pa_nil)) pa_nil))))) (pss_one ps_never) pss_nil))) (pss_one (ps_expr (pe_meth (pv 0) T.Table.cl T.Table_keep.mt (ok_keep T.Table_keep.toDf T T.Table.cl (T.Table.na _ (by decide +kernel)) (T.Table.na _ (by decide +kernel))) (hr.mono (by first | decide | omega)) T.Table_keep.b .nil pass0 (pa_cons (pv 1) pa_nil)))))), ?_⟩
    let W' := W.own p (.ins T.Table.C dx []) notT_i
    let G : Ctx := [some (Ty.is (.ref p)), some (tRows R), none, none]
    have fr : Fr (W'.v H) G (L2.start n_Table_init [.ref p, rv]) := ⟨rfl, pr, trivial⟩
    have hR' := hR
    obtain ⟨h1, h2, h3⟩ := hR
    refine (SB.ifF (W := W') (G := G) (EVT.eq (EVT.or (EVT.not (EVT.B (EV.cb (EVA.cons (EV.var rfl) (EVA.cons EV.cst EVA.nil)) RC.isi_tt))) fun _ => EVT.not (EVT.test (EV.chain EV.cst (EV.cb (EVA.cons (EV.var rfl) EVA.nil) RC.lenT) RV.I0 EV.cst RV.I0))) ?_) SB.next).run ok fr fun σ1 H1 s1 fr1 => ?_
    · rw [List.length_map]
      simp
      omega
    refine (SB.for_ (W := W') (G := G) (vs := [2, 3]) R.zipIdx (fun p => Ty.tup [tN p.2, tRow p.1]) _ (EVI.eq (EVI.enumT (EVA.cons (EV.var rfl) EVA.nil)) (zipIdx_tup _ _)) (fun a _ => GT.two (by decide) (by decide)) (fun a ha => ?_)).run s1.2 fr1 fun σ2 H2 s2 fr2 => ?_
    · have hm : a.1 ∈ R := List.fst_mem_of_mem_zipIdx ha
      refine SB.to (SB.ifF (EVT.eq (EVT.not (EVT.B (EV.call (a.1, R.length) (EVA.cons (EV.var rfl) (EVA.cons (EV.eq (EV.cb (EVA.cons (EV.var rfl) EVA.nil) RC.lenT) (by rw [List.length_map])) EVA.nil)) ⟨(h3 _ hm).1, Nat.le_trans (hR'.len4 hm) (by decide), (h3 _ hm).2⟩))) rfl) SB.next) fun H σ q => Fr.unset (Fr.unset q rfl) rfl
    obtain ⟨v0, e0, pv0⟩ := fr2.get (i := 0) rfl
    cases pv0
    obtain ⟨v1, e1, pv1⟩ := fr2.get (i := 1) rfl
    refine ⟨.ref p, e0, p, dx, [], rfl, s2.2.at, rfl, v1, e1, ?_⟩
    refine ⟨R, W, p, dx, [v1], trivial, hp, rfl, s2.2, ⟨pv1, trivial⟩, fun H' fs ok' x' r' => k H' fs ok' ((s1.trans s2).1.trans x') r'⟩
theorem ok_RawTable_init (T : Tp K mg) : FnOk P w K mg base CX0 2 T.RawTable.a T.RawTable.fd p_RawTable_init (iSp T.RawTable.C ar_rows (fun _ => True) rTab) := by
  refine T.RawTable.F.ok sc_RawTable_init (fun vs H Q E h => ?_) (fun cdv A outer s H vs Q E hr h => ?_)
  · obtain ⟨R, W, p, dx, ws, _, _, rfl, _, al, _⟩ := h
    obtain ⟨v, rfl, _⟩ := al1 al
    rfl
  · obtain ⟨R, W, p, dx, ws, hR, hp, rfl, ok, al, k⟩ := h
    obtain ⟨rv, rfl, pr⟩ := al1 al
    have nd := sc_RawTable_init.nd
    refine ⟨_, (pss_one (ps_expr (pe_meth (pv 0) T.RawTable.cl T.RawTable_keep.mt (ok_keep T.RawTable_keep.toDf T T.RawTable.cl (T.RawTable.na _ (by decide +kernel)) (T.RawTable.na _ (by decide +kernel))) (hr.mono (by first | decide | omega)) T.RawTable_keep.b .nil pass0 (pa_cons (pv 1) pa_nil)))), ?_⟩
    exact ⟨.ref p, rfl, p, dx, [], rfl, ok.at, rfl, rv, rfl, R, W, p, dx, [rv], trivial, hp, rfl, ok, ⟨pr, trivial⟩, fun H' fs ok' x' r' => k H' fs ok' x' r'⟩
theorem EV.table {T : Tp K mg} {W : Wd} {G : Ctx} {E : XK} {ta : TE} {R : List (List Nat)} (h : EV W G ta (tRows R)) (hR : RowsOk R) : EV W G (tMake T.Table.C (iSp T.Table.C ar_rows RowsOk rTab) [] E (tCons ta tNil)) (tTab T R) :=
  EV.make R (EVA.cons h EVA.nil) hR rfl fun H a dx fs e ⟨H0, x, r⟩ => .inl ⟨a, dx, fs, rfl, e, r.mo x⟩
theorem EV.raw {T : Tp K mg} {W : Wd} {G : Ctx} {E : XK} {ta : TE} {R : List (List Nat)} (h : EV W G ta (tRows R)) : EV W G (tMake T.RawTable.C (iSp T.RawTable.C ar_rows (fun _ => True) rTab) [] E (tCons ta tNil)) (tTab T R) :=
  EV.make R (EVA.cons h EVA.nil) trivial rfl fun H a dx fs e ⟨H0, x, r⟩ => .inr ⟨a, dx, fs, rfl, e, r.mo x⟩
theorem ok_with_row (T : Tp K mg) : FnOk P w K mg base CX0 4 T.with_row.a T.with_row.fd p_with_row (pSp (fun i : List (List Nat) × Nat × List Nat => [tTab T i.1, tN i.2.1, Ty.lst (i.2.2.map tN)]) (fun i => i.1.length ≤ 4 ∧ i.2.1 < i.1.length) (fun i => tTab T (i.1.set i.2.1 i.2.2))) :=
  pure_ok T.with_row.F sc_with_row (fun _ => rfl) fun cdv A outer s H E hr => by
    have nd := sc_with_row.nd
    refine ⟨_, (pss_one (ps_ret (pe_make T.RawTable.mkk (ok_RawTable_init T) (hr.mono (by first | decide | omega)) rfl T.RawTable.m T.RawTable.b .nil pass0 (pa_cons (pe_op op_catA (pe_op op_catA (pe_slice sl_tupA (pe_fld (pv 0) rfl) po_none (po_some (pv 1))) (pe_tup (pa_cons (pe_callTy call_tuple_of (by rfl) T.b_tuple (by decide +kernel) (pa_cons (pv 2) pa_nil)) pa_nil))) (pe_slice sl_tupA (pe_fld (pv 0) rfl) (po_some (pe_op op_add (pv 1) pe_int)) po_none)) pa_nil)))), fun W i hi => ?_⟩
    obtain ⟨R, p, r⟩ := i
    obtain ⟨h1, h2⟩ := hi
    have h1 : R.length ≤ 4 := h1
    have h2 : p < R.length := h2
    refine ST.ret (EV.raw (R := R.set p r) (EV.eq (T := Ty.tup ((R.take p).map tRow ++ [tRow r] ++ (R.drop (p + 1)).map tRow)) ?_ ?_))
    · refine EV.op (EV.op ?_ (EV.tup (EVA.cons (EV.cb (EVA.cons (EV.var rfl) EVA.nil) RC.tupOf) EVA.nil) (by show 1 ≤ 1000; decide)) (RV.catT (by simp; omega))) ?_ (RV.catT (by simp; omega))
      · refine EV.eq (EV.slT (EV.fld (EV.var rfl) (has_rows T R)) EVO.none (EVO.some (EV.var rfl))) ?_
        rw [cut_to, List.map_take]
      · refine EV.eq (EV.slT (EV.fld (EV.var rfl) (has_rows T R)) (EVO.some (i := ((p + 1 : Nat) : Int)) (EV.op (EV.var rfl) EV.cst RV.I0)) EVO.none) ?_
        rw [cut_from, List.map_drop]
    · show Ty.tup _ = Ty.tup _
      rw [List.set_eq_take_append_cons_drop, if_pos h2, List.map_append, List.map_cons, List.append_assoc]
      rfl
end
end Fo
set_option Elab.async false
set_option linter.all false
set_option maxRecDepth 100000
set_option maxHeartbeats 1000000
namespace Fo
open PySem PySem.Spec PyProof.Rows L2
local macro_rules | `(tactic| walk_at "ev") => `(tactic| first
  | ((with_reducible apply EV.var); rfl)
  | (with_reducible exact EV.cst)
  | (with_reducible exact EVA.nil)
  | (with_reducible exact EVO.none)
  | ((with_reducible apply EVO.some); (· walk_at "ev"))
  | ((with_reducible apply EVA.cons); (· walk_at "ev"); (· walk_at "ev"))
  | ((with_reducible apply EV.op); (· walk_at "ev"); (· walk_at "ev"); (· walk_at "rv"))
  | ((with_reducible apply EV.un); (· walk_at "ev"); (· exact RU.neg))
  | ((with_reducible apply EV.chain); (· walk_at "ev"); (· walk_at "ev"); (· walk_at "rv"); (· walk_at "ev"); (· walk_at "rv"))
  | ((with_reducible apply EV.cb); (· walk_at "ev"); (· walk_at "rv"))
  | ((with_reducible apply EV.bits); (· walk_at "ev"))
  | ((with_reducible apply EV.slT); (· walk_at "ev"); (· walk_at "ev"); (· walk_at "ev"))
  | ((with_reducible apply EV.isN); (· walk_at "ev"))
  | ((with_reducible apply EV.notN); (· walk_at "ev"))
  | ((with_reducible apply EV.notV); (· walk_at "ev"))
  | ((with_reducible apply EV.andV); (· walk_at "ev"); (· intro _; walk_at "ev"))
  | ((with_reducible apply EVT.test); (· walk_at "ev"))
  | ((with_reducible apply EVT.B); (· walk_at "ev"))
  | ((with_reducible apply EVT.not); (· walk_at "ev"))
  | ((with_reducible apply EV.tup); (· walk_at "ev"); (· decide))
  | ((with_reducible apply EV.lst); (· walk_at "ev"); (· decide))
  | ((with_reducible apply EVI.list); (· walk_at "ev"))
  | ((with_reducible apply EVI.tup); (· walk_at "ev"))
  | ((with_reducible apply EVI.enum); (· walk_at "ev"))
  | ((with_reducible apply EVI.enumT); (· walk_at "ev"))
  | ((with_reducible apply EVI.zipT); (· walk_at "ev"); (· walk_at "ev")))
local macro_rules | `(tactic| walk_at "rv") => `(tactic| first
  | exact RV.I0
  | exact RV.oneShl (by decide)
  | exact RV.shrN
  | exact RV.odd
  | exact RC.isi_ii
  | exact RC.isi_ib
  | exact RC.isi_tt
  | exact RC.isi_ss
  | exact RC.lenT
  | exact RC.lenL
  | exact RC.sumF
  | exact RC.allF
  | exact RV.inTN
  | exact RV.inLN
  | exact RV.inTO
  | exact RC.tupOf
  | exact RC.lstOfT
  | exact RC.lstOfL
  | exact RC.int
  | exact RC.intB
  | exact RC.abs
  | exact RV.Eq rfl
  | exact RV.Ne rfl)
/-! ## a counter's dict -/
theorem nodup_sub_len {α : Type} [DecidableEq α] : ∀ {l m : List α}, l.Nodup → (∀ x ∈ l, x ∈ m) → l.length ≤ m.length
  | [], m, _, _ => Nat.zero_le _
  | a :: l, m, h, k => by
    obtain ⟨h1, h2⟩ := List.nodup_cons.mp h
    have ham := k a List.mem_cons_self
    have ih := nodup_sub_len (l := l) (m := m.erase a) h2 fun x hx => (List.mem_erase_of_ne (show x ≠ a from fun e => h1 (by rw [← e]; exact hx))).mpr (k x (List.mem_cons_of_mem _ hx))
    rw [List.length_erase_of_mem ham] at ih
    have : 0 < m.length := List.length_pos_of_mem ham
    rw [List.length_cons]
    omega
def allK : List (List Key) := (List.range 256).map fun i => keyOf (i / 16) (i % 16)
theorem Vld.small {R : List (List Nat)} {ks : List (List Key × V)} (h : Vld R ks) : ks.length ≤ 256 := by
  have e := nodup_sub_len (l := ks.map (·.1)) (m := allK) h.1.1 fun x hx => by
    obtain ⟨kv, hk, rfl⟩ := List.mem_map.mp hx
    obtain ⟨P, T, hP, hT, e, _⟩ := h.2 kv hk
    rw [e]
    refine List.mem_map.mpr ⟨16 * P + T, List.mem_range.mpr (by omega), ?_⟩
    rw [show (16 * P + T) / 16 = P by omega, show (16 * P + T) % 16 = T by omega]
  rwa [List.length_map, show allK.length = 256 from by unfold allK; rw [List.length_map, List.length_range]] at e
theorem Vld.get {R : List (List Nat)} {ks : List (List Key × V)} {P T : Nat} {v : V} (h : Vld R ks) (e : valV ks (keyOf P T) = some v) : v = .int ((cntL R (nums P) (nums T) : Nat) : Int) := by
  unfold valV at e
  cases q : ks.find? fun kv => decide (kv.1 = keyOf P T) with
  | none => rw [q] at e; cases e
  | some kv =>
    rw [q] at e
    have hk := List.mem_of_find?_eq_some q
    have h1 := List.find?_some q
    have h1 : kv.1 = keyOf P T := by simpa using h1
    obtain ⟨P', T', _, _, e1, e2⟩ := h.2 kv hk
    rw [h1] at e1
    have h3 : P = P' ∧ T = T' := by
      unfold keyOf at e1
      injection e1 with a b
      injection b with b _
      injection a with a
      injection b with b
      exact ⟨by omega, by omega⟩
    obtain ⟨rfl, rfl⟩ := h3
    have e' : some kv.2 = some v := e
    rw [e2] at e'
    exact (Option.some.inj e').symm
theorem Vld.put {R : List (List Nat)} {ks : List (List Key × V)} {P T : Nat} (h : Vld R ks) (hP : P < 16) (hT : T < 16) (e : valV ks (keyOf P T) = none) : Vld R (putK ks (keyOf P T) (.int ((cntL R (nums P) (nums T) : Nat) : Int))) := by
  refine ⟨⟨nd_putK _ h.1.1 e, ?_⟩, fun kv hk => ?_⟩
  · rw [valV_put]
    by_cases q : keyOf 0 0 = keyOf P T
    · rw [if_pos q]; rfl
    · rw [if_neg q]; exact h.1.2
  rw [putK_new _ e] at hk
  rcases List.mem_append.mp hk with hk | hk
  · exact h.2 kv hk
  · rw [List.mem_singleton] at hk
    subst hk
    exact ⟨P, T, hP, hT, rfl, rfl⟩
theorem Vld.put' {R : List (List Nat)} {ks : List (List Key × V)} {P T : Nat} (h : Vld R ks) (hP : P < 16) (hT : T < 16) : Vld R (putK ks (keyOf P T) (.int ((cntL R (nums P) (nums T) : Nat) : Int))) := by
  cases e : valV ks (keyOf P T) with
  | none => exact h.put hP hT e
  | some v =>
    have hv := h.get e
    have same : putK ks (keyOf P T) (.int ((cntL R (nums P) (nums T) : Nat) : Int)) = ks := by
      unfold putK
      have ha := valV_any (keyOf P T) ks
      rw [e] at ha
      rw [if_pos (show _ = true from ha)]
      conv => rhs; rw [← List.map_id ks]
      refine List.map_congr_left fun kv hk => ?_
      by_cases q : kv.1 = keyOf P T
      · rw [if_pos q]
        obtain ⟨P', T', _, _, e1, e2⟩ := h.2 kv hk
        have h3 : P = P' ∧ T = T' := by
          rw [q] at e1
          unfold keyOf at e1
          injection e1 with a b
          injection b with b _
          injection a with a
          injection b with b
          exact ⟨by omega, by omega⟩
        obtain ⟨rfl, rfl⟩ := h3
        rw [← e2]
        rfl
      · rw [if_neg q]
        rfl
    rw [same]
    exact h
theorem vld0 (R : List (List Nat)) : Vld R [(keyOf 0 0, .int 1)] := ⟨⟨by simp, by rw [valV_pos rfl]; rfl⟩, fun kv hk => by
  rw [List.mem_singleton] at hk
  subst hk
  exact ⟨0, 0, by decide, by decide, rfl, rfl⟩⟩
theorem disp_run {σ : L2.St} {H : Hp} {Q : VK} (k : ∀ p q, H p = none → q ≠ p → H q = none → Q (.ref p) (upd (upd (upd H p (.dT [])) q (.tup [.int 0, .int 0])) p (.dT [(keyOf 0 0, .int 1)]))) :
    tDisp1T (tTup (tCons (tC (.int 0)) (tCons (tC (.int 0)) tNil))) (tC (.int 1)) σ H Q := fun p hp => ⟨by show 2 ≤ sizeLine; decide, fun q hq => by
  have hne : q ≠ p := fun e => by rw [e, upd_same] at hq; cases hq
  rw [upd_ne hne] at hq
  refine ⟨by rw [upd_ne hne.symm, upd_same], q, keyOf 0 0, rfl, upd_same, ?_⟩
  exact k p q hp hne hq⟩
section
variable {P : Program} {w : World} {K : PySem.W.Frag} {mg : Str → Option Value} {base : Heap}
def spCnt0 (C : Addr) : Sp := fun vs H Q _ => ∃ (R : List (List Nat)) (W : Wd) (p dx : Addr) (rv : V), R.length ≤ 4 ∧ p ∉ W.M ∧ vs = [.ref p, rv] ∧ (W.own p (.ins C dx []) trivial).ok H ∧ (tRows R).p ((W.own p (.ins C dx []) trivial).v H) rv ∧
  ∀ d H' fs, d ∉ p :: W.M → ((W.own p (.ins C dx fs) trivial).cnt d R).ok H' → Xt ((W.own p (.ins C dx []) trivial).v H) (((W.own p (.ins C dx fs) trivial).cnt d R).v H') → rCnt R d (((W.own p (.ins C dx fs) trivial).cnt d R).v H') fs → Q .non H'
theorem ok_Counter_init (T : Tp K mg) : FnOk P w K mg base CX0 1 T.Counter.a T.Counter.fd p_Counter_init (spCnt0 T.Counter.C) := by
  refine T.Counter.F.ok sc_Counter_init (fun vs H Q E h => ?_) (fun cdv A outer s H vs Q E hr h => ?_)
  · obtain ⟨R, W, p, dx, rv, _, _, rfl, _⟩ := h
    rfl
  · obtain ⟨R, W, p, dx, rv, hR, hp, rfl, ok, pr, k⟩ := h
    have nd := sc_Counter_init.nd
    refine ⟨_, (pss_cons (ps_fld (pv 0) (pv 1) rfl) (pss_cons (ps_fld (pv 0) (pe_op op_sub (pe_op op_oneShl pe_int (pe_callB call_len_seq (by rfl) T.b_len PySem.boot_len (pa_cons (pv 1) pa_nil))) pe_int) rfl) (pss_one (ps_fld (pv 0) (pe_disp1T (hu_of hr) (pe_tup (pa_cons pe_int (pa_cons pe_int pa_nil))) pe_int) rfl)))), ?_⟩
    have G : Ctx := [some (Ty.is (.ref p)), some (tRows R)]
    refine fld_seq (G := [some (Ty.is (.ref p)), some (tRows R)]) (T := tRows R) hp rfl ok ⟨rfl, pr, trivial⟩ (by walk_at "ev") T.Counter.cl (T.Counter.na _ (by decide +kernel)) (by show 0 < 1000; decide) fun v H' ok' x' p' => ?_
    have pr' := (tRows R).mo x' pr
    refine fld_seq (G := [some (Ty.is (.ref p)), some (tRows R)]) (T := Ty.any) hp rfl ok' ⟨rfl, pr', trivial⟩ ?_ T.Counter.cl (T.Counter.na _ (by decide +kernel)) (by show 1 < 1000; decide) fun v2 H2 ok2 x2 p2 => ?_
    · refine EV.to (EV.op (EV.op EV.cst (EV.cb (EVA.cons (EV.var rfl) EVA.nil) RC.lenT) (RV.oneShl (by rw [List.length_map]; omega))) EV.cst RV.I0) fun _ _ _ => trivial
    refine disp_run fun d q hd hne hq => ⟨.ref p, rfl, p, T.Counter.C, dx, putF "whole" v2 (putF "rows" v []), rfl, ?_, T.Counter.cl, T.Counter.na _ (by decide +kernel), by show 2 < 1000; decide, ?_⟩
    · have e := ok2.at
      rw [upd_ne (ne_of_none e hd), upd_ne (ne_of_none e hq), upd_ne (ne_of_none e hd)]
      exact e
    have hpd : p ≠ d := ne_of_none ok2.at hd
    have hpq : p ≠ q := ne_of_none ok2.at hq
    have hdM : d ∉ p :: W.M := fun z => by
      rcases List.mem_cons.mp z with z | z
      · exact hpd z.symm
      · obtain ⟨o, e, _⟩ := W.al ok2.1 z
        rw [hd] at e; cases e
    have hqM : q ∉ p :: W.M := fun z => by
      rcases List.mem_cons.mp z with z | z
      · exact hpq z.symm
      · obtain ⟨o, e, _⟩ := W.al ok2.1 z
        rw [hq] at e; cases e
    generalize hfs : putF "known" (V.ref d) (putF "whole" v2 (putF "rows" v [])) = fs
    have efs : fs = ([("rows", v), ("whole", v2), ("known", .ref d)] : List (Str × V)) := by
      rw [← hfs, show putF "rows" v [] = ([("rows", v)] : List (Str × V)) from rfl, putF2 (by decide +kernel), putF3 (by decide +kernel) (by decide +kernel)]
    generalize hH : upd (upd (upd (upd H2 d (.dT [])) q (.tup [.int 0, .int 0])) d (.dT [(keyOf 0 0, .int 1)])) p (.ins T.Counter.C dx fs) = H3
    have at3 : ∀ a, a ≠ p → a ≠ d → a ≠ q → H3 a = H2 a := fun a h1 h2 h3 => by rw [← hH, upd_ne h1, upd_ne h2, upd_ne h3, upd_ne h2]
    have xv : Xt (vis (p :: W.M) H2) (vis (d :: p :: W.M) H3) := fun a o e => by
      obtain ⟨n, e⟩ := vis_some e
      have h2 : a ≠ d := ne_of_none e hd
      have h3 : a ≠ q := ne_of_none e hq
      have h1 : a ≠ p := fun z => n (by rw [z]; exact List.mem_cons_self)
      show vis (d :: p :: W.M) H3 a = some o
      rw [vis_eq (fun z => (List.mem_cons.mp z).elim h2 n), at3 a h1 h2 h3]
      exact e
    have x3 : Xt ((W.own p (.ins T.Counter.C dx []) trivial).v H) (vis (d :: p :: W.M) H3) := (x'.trans x2).trans xv
    refine k d H3 fs hdM ⟨⟨W.mo ok2.1 xv fun a ha => ?_, ?_⟩, _, ?_, vld0 R⟩ x3 ⟨v, v2, efs, (tRows R).mo (x2.trans xv) p'⟩
    · exact at3 a (fun z => hp (z ▸ ha)) (fun z => hdM (List.mem_cons_of_mem _ (z ▸ ha))) fun z => hqM (List.mem_cons_of_mem _ (z ▸ ha))
    · rw [← hH, upd_same]
    · rw [← hH, upd_ne hpd.symm, upd_same]
/-- f(Counter(rows), ..) -/
theorem EV.withCnt {T : Tp K mg} {ι : Type} {Rr : ι → List (List Nat)} {args : ι → Addr → List Ty} {ok : ι → Prop} {res : ι → Ty} {W : Wd} {G : Ctx} {E E' : XK} {te : TE} {tr : TA} {R : List (List Nat)} (i : ι) (us : List Ty) (h : EV W G te (tRows R)) (hR : R.length ≤ 4) (ei : R = Rr i)
    (hr : ∀ d, d ∉ W.M → EVA (W.cnt d R) G tr us) (hi : ok i) (e : ∀ d, tCnt T R d :: us = args i d := by intro _; rfl) :
    EV W G (tCall (cSp Rr args ok res) [] E (tCons (tMake T.Counter.C (spCnt0 T.Counter.C) [] E' (tCons te tNil)) tr)) (res i) := ⟨fun {σ H Q} okW fr k =>
  h.run okW fr fun v H1 s1 p1 => by
    intro x dx hx hdx hne
    have s2 := s1.2.new (o := .own x) hdx
    have hx2 : upd H1 dx (.own x) x = none := by rw [upd_ne hne.symm]; exact hx
    have ok3 : (W.own x (.ins T.Counter.C dx []) trivial).ok (upd (upd H1 dx (.own x)) x (.ins T.Counter.C dx [])) := s2.2.own hx2
    have v3 : (W.own x (.ins T.Counter.C dx []) trivial).v (upd (upd H1 dx (.own x)) x (.ins T.Counter.C dx [])) = W.v (upd H1 dx (.own x)) := own_v s2.2 hx2
    have hxM := s2.2.nM hx2
    refine ⟨R, W, x, dx, v, hR, hxM, rfl, ok3, by rw [v3]; exact (tRows R).mo s2.1 p1, fun d H' fs hd ok4 x4 r4 => ⟨rfl, ?_⟩⟩
    rw [v3] at x4
    have hdM : d ∉ W.M := fun z => hd (List.mem_cons_of_mem _ z)
    have hdx' : d ≠ x := fun z => hd (by rw [z]; exact List.mem_cons_self)
    have sub : Xt (vis (d :: x :: W.M) H') (vis (d :: W.M) H') := fun a o e => by
      obtain ⟨n, e⟩ := vis_some e
      show vis (d :: W.M) H' a = some o
      rw [vis_eq (fun z => n ((List.mem_cons.mp z).elim (fun z => by rw [z]; exact List.mem_cons_self) fun z => List.mem_cons_of_mem _ (List.mem_cons_of_mem _ z)))]
      exact e
    have ok5 : (W.cnt d R).ok H' := ⟨W.mo ok4.1.1 sub fun _ _ => rfl, ok4.2⟩
    have x5 : Xt (W.v H) ((W.cnt d R).v H') := (s1.1.trans s2.1).trans (x4.trans sub)
    have px : (tCnt T R d).p ((W.cnt d R).v H') (.ref x) := by
      refine ⟨x, dx, fs, rfl, ?_, r4.mo sub⟩
      have := ok4.1.2
      show vis (d :: W.M) H' x = _
      rw [vis_eq (fun z => (List.mem_cons.mp z).elim (fun z => hdx' z.symm) hxM)]
      exact this
    refine (hr d hdM).run ok5 (fr.mo x5) fun vs H6 s6 p6 => ⟨i, W.cnt d R, d, hi, ei ▸ HasCnt.cnt hdM, s6.2, ?_, fun v' H7 s7 p7 => ?_⟩
    · rw [List.append_nil, ← e d]
      exact ⟨(tCnt T R d).mo s6.1 px, p6⟩
    · have sub2 : Xt ((W.cnt d R).v H7) (W.v H7) := vis_drop
      exact k v' H7 ⟨(x5.trans (s6.1.trans s7.1)).trans sub2, W.mo s7.2.1 sub2 fun _ _ => rfl⟩ ((res i).mo sub2 p7)⟩
theorem has_known (T : Tp K mg) (R : List (List Nat)) (d : Addr) : HasF K "known" (tCnt T R d) (Ty.is (.ref d)) := fun H v h => by
  obtain ⟨a, dx, fs, rfl, e, rv, wv, rfl, p⟩ := h
  refine ⟨a, _, dx, _, .ref d, rfl, e, T.Counter.cl, T.Counter.na _ (by decide +kernel), ?_, rfl⟩
  have h1 : (("known" : Str) == ("rows" : Str)) = false := by decide +kernel
  have h2 : (("known" : Str) == ("whole" : Str)) = false := by decide +kernel
  simp [List.lookup, h1, h2]
/-- the things, of those in T, that p may get -/
def amongR (R : List (List Nat)) (p T : Nat) : List Nat := (R.getD p []).filter fun x => decide (x ∈ nums T)
theorem nums_bit {x T : Nat} (hx : x < 4) : decide (x ∈ nums T) = T.testBit x := by
  unfold nums
  by_cases h : T.testBit x = true
  · rw [h]
    exact decide_eq_true (List.mem_filter.mpr ⟨List.mem_range.mpr hx, h⟩)
  · rw [Bool.not_eq_true] at h
    rw [h]
    refine decide_eq_false fun z => ?_
    have := (List.mem_filter.mp z).2
    rw [h] at this
    cases this
theorem RowsOk.row {R : List (List Nat)} (h : RowsOk R) {p : Nat} (hp : p < R.length) : R.getD p [] ∈ R := by
  rw [List.getD_eq_getElem?_getD, List.getElem?_eq_getElem hp]
  exact List.getElem_mem hp
theorem getD_some {α : Type} {R : List α} {p : Nat} {z : α} (hp : p < R.length) : R[p]? = some (R.getD p z) := by
  rw [List.getD_eq_getElem?_getD, List.getElem?_eq_getElem hp]; rfl
theorem ok_Counter_among (T : Tp K mg) : FnOk P w K mg base CX0 2 T.Counter_among.a T.Counter_among.fd p_Counter_among
    (pSp (fun i : Addr × List (List Nat) × Nat × Nat => [tCnt T i.2.1 i.1, tN i.2.2.1, tN i.2.2.2]) (fun i => RowsOk i.2.1 ∧ i.2.2.1 < i.2.1.length) (fun i => Ty.lst ((amongR i.2.1 i.2.2.1 i.2.2.2).map tN))) :=
  pure_ok T.Counter_among.F sc_Counter_among (fun _ => rfl) fun cdv A outer s H E hr => by
    have nd := sc_Counter_among.nd
    refine ⟨_, (pss_one (ps_ret (pe_lc (own := [("thing", 3)]) rfl nd (pi_tup (pe_ix ix_tup (pe_fld (pv 0) rfl) (pv 1) (fun _ _ => rfl))) (blkOk_by (own := [("thing", 3)]) (N := n_Counter_among) (sc := defScope s_Counter_among) (by decide +kernel)) (fun _ _ _ _ _ => (pg_name (i := 3) nd rfl (Or.inl rfl))) (fun _ _ _ _ _ => (pts_one (pt_val (pe_call (ok_has T) (hr.mono (by first | decide | omega)) rfl T.has.m T.has.F.kp T.has.b .nil pass0 (pa_cons (pv 2) (pa_cons (pv 3) pa_nil)))))) (fun _ _ _ _ _ => (pv 3))))), fun W i hi => ?_⟩
    obtain ⟨d, R, p, t⟩ := i
    obtain ⟨hR, hp⟩ := hi
    have hR : RowsOk R := hR
    have hp : p < R.length := hp
    have hm := hR.row hp
    refine ST.retTo (EV.lc (R.getD p []) tN (fun x => t.testBit x) tN _ (EVI.tup (EV.ixT (EV.fld (EV.var rfl) (has_crows T R d)) (EV.var rfl) rfl (by rw [List.getElem?_map, getD_some (z := ([] : List Nat)) hp]; rfl))) (fun a _ => GT.name (by decide)) (fun W' a ha => EVT.B (EV.call (t, a) (by walk_at "ev") trivial)) (fun W' a ha _ => EV.var rfl) (by have := hR.len4 hm; omega)) ?_
    show Ty.lst _ = Ty.lst _
    unfold amongR
    congr 2
    refine List.filter_congr fun x hx => (nums_bit ?_).symm
    have := (hR.2.2 _ hm).2 x hx
    have := hR.2.1
    omega
/-! ## Counter.of -/
theorem nums_pos {P : Nat} (h : nums P ≠ []) : 0 < P := by
  cases P with
  | zero => exact absurd rfl h
  | succ n => omega
theorem nums_nil : ∀ P : Nat, P < 16 → nums P = [] → P = 0 := by decide
theorem nums_lsb : ∀ P : Nat, P < 16 → 0 < P → nums P = lsb P :: nums (P - 2 ^ lsb P) ∧ P - 2 ^ lsb P < 16 ∧ 2 ^ lsb P ≤ P ∧ lsb P < 4 := by decide
theorem nums_lt {P x : Nat} (h : x ∈ nums P) : x < 4 := by
  have := (List.mem_filter.mp h).1
  exact List.mem_range.mp this
def OfOk (n : Nat) (i : List (List Nat) × Nat × Nat) : Prop := RowsOk i.1 ∧ i.2.1 < 16 ∧ i.2.2 < 16 ∧ (nums i.2.1).length = (nums i.2.2).length ∧ (nums i.2.1).length ≤ n ∧ ∀ x ∈ nums i.2.1, x < i.1.length
abbrev sp_of (T : Tp K mg) (n : Nat) : Sp := cSp (fun i : List (List Nat) × Nat × Nat => i.1) (fun i d => [tCnt T i.1 d, tN i.2.1, tN i.2.2]) (OfOk n) (fun i => tN (cntL i.1 (nums i.2.1) (nums i.2.2)))
theorem EV.notIn_known {T : Tp K mg} {W : Wd} {G : Ctx} {R : List (List Nat)} {d : Addr} {a b : Nat} {ta tk : TE} (c : HasCnt W d R) (h : EV W G tk (Ty.tupX [tN a, tN b])) (ho : EV W G ta (tCnt T R d)) {σ : L2.St} {H : Hp} {Q : Bool → Hp → Prop} (ok : W.ok H) (fr : Fr (W.v H) G σ)
    (k : ∀ H', W.st H H' → ∀ ks, H' d = some (.dT ks) → Vld R ks → Q (!(valV ks (keyOf a b)).isSome) H') : tB (tDNotIn tk (tFld K ta "known")) σ H Q :=
  h.run ok fr fun v H1 s1 p1 => (EV.fld ho (has_known T R d)).run s1.2 (fr.mo s1.1) fun x H2 s2 p2 => by
    cases p2
    obtain ⟨q, vs, rfl, e, al⟩ := (Ty.tupX [tN a, tN b]).mo s2.1 p1
    obtain ⟨ks, hk, hv⟩ := c.get s2.2
    obtain ⟨v1, v2, rfl, e1, e2⟩ := al2 al
    cases e1; cases e2
    exact ⟨d, _, rfl, DGet.t (k := keyOf a b) hk (vis_some e).2, _, rfl, k H2 (s1.trans s2) ks hk hv⟩
theorem known_get {T : Tp K mg} {W : Wd} {G : Ctx} {R : List (List Nat)} {d : Addr} {a b i j : Nat} (hj : G[j]? = some (some (Ty.tupX [tN a, tN b]))) (hi : G[i]? = some (some (tCnt T R d))) {σ : L2.St} {H : Hp} {Q : VK} (fr : Fr (W.v H) G σ)
    (k : ∃ ks v, H d = some (.dT ks) ∧ valV ks (keyOf a b) = some v ∧ Q v H) : tDGet (tFld K (tVar i) "known") (tVar j) σ H Q := by
  obtain ⟨x, ex, px⟩ := fr.get hi
  obtain ⟨a1, C, dx, fs, z, rfl, e, cl, na, l, q⟩ := has_known T R d _ _ px
  cases q
  obtain ⟨y, ey, p1, vs, rfl, ep, al⟩ := fr.get hj
  obtain ⟨ks, w, hk, hv, hq⟩ := k
  obtain ⟨v1, v2, rfl, e1, e2⟩ := al2 al
  cases e1; cases e2
  exact ⟨.ref a1, ex, a1, C, dx, fs, .ref d, rfl, (vis_some e).2, cl, na, l, .ref p1, ey, d, w, rfl, by have := DGet.t (k := keyOf a b) hk (vis_some ep).2; rwa [hv] at this, hq⟩
theorem known_put {T : Tp K mg} {W : Wd} {G : Ctx} {R : List (List Nat)} {d : Addr} {a b : Nat} {ta tk tv : TE} {U : Ty} (c : HasCnt W d R) (hv : EV W G tv U) (h : EV W G tk (Ty.tupX [tN a, tN b])) (ho : EV W G ta (tCnt T R d)) {σ : L2.St} {H : Hp} {D : Ends} (ok : W.ok H) (fr : Fr (W.v H) G σ)
    (k : ∀ v H' ks, W.st H H' → U.p (W.v H') v → H' d = some (.dT ks) → Vld R ks → D.nx σ (upd H' d (.dT (putK ks (keyOf a b) v)))) : sDPut (tFld K ta "known") tk tv D σ H :=
  hv.run ok fr fun z H0 s0 p0 => (EV.fld ho (has_known T R d)).run s0.2 (fr.mo s0.1) fun x H1 s1 p1 => h.run s1.2 (fr.mo (s0.trans s1).1) fun v H2 s2 p2 => by
    cases p1
    obtain ⟨q, vs, rfl, e, al⟩ := p2
    obtain ⟨ks, hk, hvl⟩ := c.get s2.2
    obtain ⟨v1, v2, rfl, e1, e2⟩ := al2 al
    cases e1; cases e2
    exact ⟨d, _, rfl, DPut.t (k := keyOf a b) hk (vis_some e).2 (small1000 (by have := hvl.small; omega)), k z H2 ks ((s0.trans s1).trans s2) (U.mo (s1.trans s2).1 p0) hk hvl⟩
theorem cntL_cons (R : List (List Nat)) (p : Nat) (ps Tm : List Nat) : cntL R (p :: ps) Tm = (((R.getD p []).filter fun x => decide (x ∈ Tm)).map fun x => cntL R ps (Tm.erase x)).sum := rfl
theorem of_len {T : Tp K mg} {n : Nat} {vs : List V} {H : Hp} {Q : VK} {E : XK} (h : sp_of T n vs H Q E) : vs.length = 3 := by
  obtain ⟨i, W, d, _, _, _, al, _⟩ := h
  rw [← al.len]
  rfl
theorem ok_of0 (T : Tp K mg) : FnOk P w K mg base CX0 3 T.Counter_of.a T.Counter_of.fd p_Counter_of (sp_of T 0) := by
  refine T.Counter_of.F.ok sc_Counter_of (fun vs H Q E h => of_len h) (fun cdv A outer s H vs Q E hr h => ?_)
  obtain ⟨⟨R, P', t⟩, W, d, ⟨hR, hP, ht, hl, hn, hx⟩, c, ok, al, k⟩ := h
  have nd := sc_Counter_of.nd
  refine ⟨_, (pss_cons (ps_set (i := 3) nd rfl (Or.inl rfl) (pe_tup (pa_cons (pv 1) (pa_cons (pv 2) pa_nil)))) (pss_cons (ps_if (pt_cmp (pc_dnotin (hu_of hr) (pv 3) (pe_fld (pv 0) rfl))) (pss_cons ps_never (pss_cons ps_never (pss_one ps_never))) pss_nil) (pss_one (ps_ret (pe_dget (hu_of hr) (pe_fld (pv 0) rfl) (pv 3) (fun _ _ => rfl)))))), ?_⟩
  have hP0 : P' = 0 := nums_nil P' hP (List.length_eq_zero_iff.mp (Nat.le_zero.mp hn))
  have ht0 : t = 0 := nums_nil t ht (List.length_eq_zero_iff.mp (by rw [← hl]; exact Nat.le_zero.mp hn))
  subst hP0 ht0
  have fr : Fr (W.v H) ([tCnt T R d, tN 0, tN 0].map some ++ List.replicate 4 none) (L2.start n_Counter_of vs) := by
    unfold L2.start
    rw [← al.len]
    exact Fr.start al
  refine run_asg (EV.tupX (ts := [tN 0, tN 0]) (by walk_at "ev") (by decide)) ok fr fun v H1 s1 p1 fr1 => run_if ?_
  refine EV.notIn_known (T := T) (a := 0) (b := 0) c (EV.var rfl) (EV.var rfl) s1.2 fr1 fun H2 s2 ks hk hv => ?_
  rw [hv.1.2]
  refine iteF (run_next ?_)
  refine known_get (T := T) (R := R) (d := d) (a := 0) (b := 0) (i := 0) (j := 3) rfl rfl (fr1.mo s2.1) ?_
  obtain ⟨v3, e3⟩ := Option.isSome_iff_exists.mp hv.1.2
  exact ⟨ks, v3, hk, e3, k _ H2 (s1.trans s2) (hv.get e3)⟩
theorem of_step (T : Tp K mg) (n : Nat) (ih : FnOk P w K mg base CX0 (3 + n) T.Counter_of.a T.Counter_of.fd p_Counter_of (sp_of T n)) : FnOk P w K mg base CX0 (3 + n + 1) T.Counter_of.a T.Counter_of.fd p_Counter_of (sp_of T (n + 1)) := by
  refine T.Counter_of.F.ok sc_Counter_of (fun vs H Q E h => of_len h) (fun cdv A outer s H vs Q E hr h => ?_)
  obtain ⟨⟨R, P', t⟩, W, d, ⟨hR, hP, ht, hl, hn, hx⟩, c, ok, al, k⟩ := h
  have hR : RowsOk R := hR
  have hP : P' < 16 := hP
  have ht : t < 16 := ht
  have hl : (nums P').length = (nums t).length := hl
  have hn : (nums P').length ≤ n + 1 := hn
  have hx : ∀ x ∈ nums P', x < R.length := hx
  have nd := sc_Counter_of.nd
  refine ⟨_, (pss_cons (ps_set (i := 3) nd rfl (Or.inl rfl) (pe_tup (pa_cons (pv 1) (pa_cons (pv 2) pa_nil)))) (pss_cons (ps_if (pt_cmp (pc_dnotin (hu_of hr) (pv 3) (pe_fld (pv 0) rfl))) (pss_cons (ps_set (i := 4) nd rfl (Or.inl rfl) (pe_call (ok_least_of T) (hr.mono (by first | decide | omega)) rfl T.least_of.m T.least_of.F.kp T.least_of.b .nil pass0 (pa_cons (pv 1) pa_nil))) (pss_cons (ps_set (i := 5) nd rfl (Or.inr rfl) (pe_call (ok_without T) (hr.mono (by first | decide | omega)) rfl T.without.m T.without.F.kp T.without.b .nil pass0 (pa_cons (pv 1) (pa_cons (pv 4) pa_nil)))) (pss_one (ps_dput (hu_of hr) (pe_fld (pv 0) rfl) (pv 3) (pe_callB (cr_sum rfl) (by rfl) T.b_sum (by decide +kernel) (pa_cons (pe_lc (own := [("one", 6)]) rfl nd (pi_list (pe_meth (pv 0) T.Counter.cl T.Counter_among.mt (ok_Counter_among T) (hr.mono (by first | decide | omega)) T.Counter_among.b .nil pass0 (pa_cons (pv 4) (pa_cons (pv 2) pa_nil)))) (blkOk_by (own := [("one", 6)]) (N := n_Counter_of) (sc := defScope s_Counter_of) (by decide +kernel)) (fun _ _ _ _ _ => (pg_name (i := 6) nd rfl (Or.inl rfl))) (fun _ _ _ _ _ => pts_nil) (fun _ _ _ _ _ => (pe_meth (pv 0) T.Counter.cl T.Counter_of.mt ih (hr.mono (by first | decide | omega)) T.Counter_of.b .nil pass0 (pa_cons (pv 5) (pa_cons (pe_call (ok_without T) (hr.mono (by first | decide | omega)) rfl T.without.m T.without.F.kp T.without.b .nil pass0 (pa_cons (pv 2) (pa_cons (pv 6) pa_nil))) pa_nil))))) pa_nil)) rfl)))) pss_nil) (pss_one (ps_ret (pe_dget (hu_of hr) (pe_fld (pv 0) rfl) (pv 3) (fun _ _ => rfl)))))), ?_⟩
  have fr : Fr (W.v H) ([tCnt T R d, tN P', tN t].map some ++ List.replicate 4 none) (L2.start n_Counter_of vs) := by
    unfold L2.start
    rw [← al.len]
    exact Fr.start al
  refine run_asg (EV.tupX (ts := [tN P', tN t]) (by walk_at "ev") (by show 2 ≤ 1000; decide)) ok fr fun v H1 s1 p1 fr1 => run_if ?_
  refine EV.notIn_known (T := T) (a := P') (b := t) c (EV.var rfl) (EV.var rfl) s1.2 fr1 fun H2 s2 ks hk hv => ?_
  have fr2 := fr1.mo s2.1
  cases hq : (valV ks (keyOf P' t)).isSome with
  | true =>
    refine iteF (run_next ?_)
    obtain ⟨v2, e2⟩ := Option.isSome_iff_exists.mp hq
    exact known_get (T := T) (R := R) (d := d) (a := P') (b := t) (i := 0) (j := 3) rfl rfl fr2 ⟨ks, v2, hk, e2, k _ H2 (s1.trans s2) (hv.get e2)⟩
  | false =>
    refine iteT ?_
    have hvn : valV ks (keyOf P' t) = none := by
      cases e : valV ks (keyOf P' t) with
      | none => rfl
      | some z => rw [e] at hq; cases hq
    have hP0 : 0 < P' := by
      rcases Nat.eq_zero_or_pos P' with e | e
      · subst e
        have e2 : t = 0 := nums_nil t ht (List.length_eq_zero_iff.mp (by rw [← hl]; rfl))
        subst e2
        have := hv.1.2
        rw [hq] at this
        cases this
      · exact e
    obtain ⟨q1, q2, q3, q4⟩ := nums_lsb P' hP hP0
    have hpl : lsb P' < R.length := hx _ (by rw [q1]; exact List.mem_cons_self)
    refine run_assoc (run_asg (EV.call P' (by walk_at "ev") ⟨hP0, hP⟩) s2.2 fr2 fun v3 H3 s3 p3 fr3 => ?_)
    refine run_assoc (run_asg (EV.call (P', lsb P') (by walk_at "ev") ⟨by show lsb P' < 16; omega, q3⟩) s3.2 fr3 fun v4 H4 s4 p4 fr4 => ?_)
    refine run_seq (known_put (T := T) (R := R) (a := P') (b := t) (U := tN (cntL R (nums P') (nums t))) c ?_ (EV.var rfl) (EV.var rfl) s4.2 fr4 fun v5 H5 ks5 s5 p5 hk5 hv5 => ?_)
    · refine EV.eq (EV.cb (EVA.cons (EV.lcYW (amongR R (lsb P') t) tN (fun x => tN (cntL R (nums (P' - 2 ^ lsb P')) (nums (t - 2 ^ x)))) _ (EVI.list (EV.meth (d, R, lsb P', t) (EV.var rfl) (isI_cnt T R d (by decide +kernel)) (by walk_at "ev") ⟨hR, hpl⟩)) (fun a _ => GT.name (by decide)) (fun D o hD x hxm => ?_) ?_) EVA.nil) RC.sumF) ?_
      · have hxt : x ∈ nums t := of_decide_eq_true (List.mem_filter.mp hxm).2
        obtain ⟨r1, r2, r3⟩ := nums_sub t ht x (nums_lt hxt) hxt
        refine EV.methC (R, P' - 2 ^ lsb P', t - 2 ^ x) (c.own hD) (EV.var rfl) (isI_cnt T R d (by decide +kernel)) (EVA.cons (EV.var rfl) (EVA.cons (EV.call (t, x) (by walk_at "ev") ⟨by show x < 16; have := nums_lt hxt; omega, r3⟩) EVA.nil)) ⟨hR, q2, r1, ?_, ?_, fun y hy => hx y (by rw [q1]; exact List.mem_cons_of_mem _ hy)⟩
        · show (nums (P' - 2 ^ lsb P')).length = (nums (t - 2 ^ x)).length
          rw [r2, List.length_erase_of_mem hxt, ← hl, q1]
          rfl
        · show (nums (P' - 2 ^ lsb P')).length ≤ n
          rw [q1, List.length_cons] at hn
          omega
      · have h1 := List.length_filter_le (fun x => decide (x ∈ nums t)) (R.getD (lsb P') [])
        have h2 := hR.len4 (hR.row hpl)
        unfold amongR
        omega
      · congr 3
        rw [q1, cntL_cons]
        unfold amongR
        congr 1
        refine List.map_congr_left fun x hxm => ?_
        have hxt : x ∈ nums t := of_decide_eq_true (List.mem_filter.mp hxm).2
        rw [(nums_sub t ht x (nums_lt hxt) hxt).2.1]
    · have p5 : v5 = .int ((cntL R (nums P') (nums t) : Nat) : Int) := p5
      subst p5
      have hn5 : W.ok (upd H5 d (.dT (putK ks5 (keyOf P' t) (.int ((cntL R (nums P') (nums t) : Nat) : Int))))) ∧ Vld R (putK ks5 (keyOf P' t) (.int ((cntL R (nums P') (nums t) : Nat) : Int))) := by
        have hv6 : Vld R (putK ks5 (keyOf P' t) (.int ((cntL R (nums P') (nums t) : Nat) : Int))) := hv5.put' hP ht
        refine ⟨?_, hv6⟩
        show W.Φ (vis W.M _) _
        rw [vis_upd_in c.mem]
        exact c.put s5.2 hv6
      have ev : W.v (upd H5 d (.dT (putK ks5 (keyOf P' t) (.int ((cntL R (nums P') (nums t) : Nat) : Int))))) = W.v H5 := vis_upd_in c.mem
      have s15 := ((((s1.trans s2).trans s3).trans s4).trans s5)
      refine known_get (W := W) (T := T) (R := R) (d := d) (a := P') (b := t) (i := 0) (j := 3) rfl rfl (by rw [ev]; exact fr4.mo s5.1) ⟨_, _, upd_same, by rw [valV_put, if_pos rfl], k _ _ ⟨by rw [ev]; exact s15.1, hn5.1⟩ rfl⟩
theorem ok_of (T : Tp K mg) : ∀ n : Nat, FnOk P w K mg base CX0 (3 + n) T.Counter_of.a T.Counter_of.fd p_Counter_of (sp_of T n)
  | 0 => ok_of0 T
  | n + 1 => of_step T n (ok_of T n)
end
end Fo
set_option Elab.async false
set_option linter.all false
set_option maxRecDepth 100000
/-! Loops that append; dict comprehensions; more operators. -/
namespace Fo
open PySem PySem.Spec PyProof.Rows L2
section
variable {K : PySem.W.Frag} {W : Wd} {G : Ctx} {te ta tb : TE} {tr : TA} {T U S R : Ty} {ts us : List Ty} {α : Type}
theorem take_filter_step {L : List α} {f : α → Bool} {i : Nat} (h : i < L.length) : (L.take (i + 1)).filter f = (L.take i).filter f ++ (if f L[i] = true then [L[i]] else []) := by
  rw [List.take_succ, List.getElem?_eq_getElem h, List.filter_append]
  show _ ++ List.filter f [L[i]] = _
  rw [List.filter_cons]
  by_cases hf : f L[i] = true
  · rw [if_pos hf, if_pos hf]; rfl
  · rw [if_neg hf, if_neg hf]; rfl
/-- for a in L: if f a: l.append(T a) -/
theorem for_append {wi : TI} {g : TG} {tt : TT} {vs : List Nat} {i : Nat} {l : Addr} (L : List α) (X : α → Ty) (f : α → Bool) (T : α → Ty) (u : α → Ctx → Ctx) (hl : l ∉ W.M)
    (hi : EVI (W.own l (.lst []) trivial) G wi (L.map X)) (hg : ∀ a ∈ L, GT g (X a) (u a) vs) (hu : ∀ a ∈ L, (u a G)[i]? = some (some (Ty.is (.ref l)))) (hd : ∀ a ∈ L, ∀ H σ, Fr H (u a G) σ → Fr H G σ)
    (ht : ∀ acc, ∀ a ∈ L, EVT (W.own l (.lst acc) trivial) (u a G) tt (f a)) (he : ∀ acc, ∀ a ∈ L, f a = true → EV (W.own l (.lst acc) trivial) (u a G) te (T a)) (hn : L.length ≤ 900)
    {σ : L2.St} {H : Hp} {D : Ends} (ok : (W.own l (.lst []) trivial).ok H) (fr : Fr ((W.own l (.lst []) trivial).v H) G σ)
    (k : ∀ σ' H' acc, (W.own l (.lst acc) trivial).ok H' → Xt ((W.own l (.lst []) trivial).v H) ((W.own l (.lst acc) trivial).v H') → Fr ((W.own l (.lst acc) trivial).v H') G σ' → Al ((W.own l (.lst acc) trivial).v H') ((L.filter f).map T) acc → D.nx σ' H') :
    tFor wi g (tIfS tt (tDrop (tBM K "list" rAppend (tVar i) (tCons te tNil))) tNext) D σ H :=
  hi.run ok fr fun J H1 gd s1 hg1 I => by
    let Pv : Nat → L2.St → Hp → Prop := fun j σ' H' => ∃ acc, (W.own l (.lst acc) trivial).ok H' ∧ Xt ((W.own l (.lst []) trivial).v H1) ((W.own l (.lst acc) trivial).v H') ∧ Fr ((W.own l (.lst acc) trivial).v H') G σ' ∧
      Al ((W.own l (.lst acc) trivial).v H') (((L.take j).filter f).map T) acc
    have P0 : Pv 0 σ H1 := ⟨[], s1.2, Xt.refl _, fr.mo s1.1, trivial⟩
    refine ⟨fun j m σ' H' => m = L.length - j ∧ j ≤ L.length ∧ Pv j σ' H', ⟨L.length, by simp, Nat.zero_le _, P0⟩, ?_⟩
    rintro j m σ' H' ⟨rfl, hjl, acc, okD, x, frD, al⟩
    have gH := I.mo hg1 x
    by_cases hlt : j < L.length
    · refine .inr ⟨I.go gH (vis_sub _ _) (by rw [List.length_map]; exact hlt), fun σ2 H2 => j + 1 ≤ L.length ∧ Pv (j + 1) σ2 H2, fun σ2 H2 p => ⟨L.length - (j + 1), by omega, rfl, p⟩, fun y H2 hy => ?_⟩
      have ha : L[j]? = some L[j] := List.getElem?_eq_getElem hlt
      have hm : L[j] ∈ L := List.getElem_mem hlt
      obtain ⟨xH, py⟩ := I.yld okD gH (by rw [List.getElem?_map, ha]; rfl) hy
      have s2 := okD.pure xH
      refine hg _ hm _ H2 _ _ y _ (frD.mo s2.1) py fun σ3 fr3 _ => ?_
      refine (ht acc _ hm).run s2.2 fr3 fun H4 s4 => ?_
      have et := take_filter_step (f := f) hlt
      by_cases hf : f L[j] = true
      · rw [if_pos hf]
        obtain ⟨v0, e0, p0⟩ := fr3.get (hu _ hm)
        cases p0
        refine ⟨.ref l, e0, .inl ⟨rfl, _, SqL.of s4.2.at⟩, (he acc _ hm hf).run s4.2 (fr3.mo s4.1) fun z H5 s5 pz => ?_⟩
        have s25 := (s2.trans s4).trans s5
        refine ⟨l, acc, z, rfl, rfl, s5.2.at, szlt ?_, hlt, acc ++ [z], s5.2.put hl, ?_, ?_, ?_⟩
        · rw [← al.len, List.length_map]
          have := List.length_filter_le f (L.take j)
          rw [List.length_take] at this
          omega
        · rw [own_put (n := trivial)]
          exact x.trans s25.1
        · rw [own_put (n := trivial)]
          exact hd _ hm _ _ (fr3.mo (s4.trans s5).1)
        · rw [own_put (n := trivial), et, if_pos hf, List.map_append]
          exact (al.mo s25.1).app ⟨pz, trivial⟩
      · rw [if_neg hf]
        refine ⟨hlt, acc, s4.2, x.trans (s2.trans s4).1, hd _ hm _ _ (fr3.mo s4.1), ?_⟩
        rw [et, if_neg hf, List.append_nil]
        exact al.mo (s2.trans s4).1
    · have e : j = L.length := by omega
      subst e
      refine .inl ⟨by have := I.stop gH (vis_sub _ _); rwa [List.length_map] at this, ?_⟩
      rw [List.take_of_length_le (Nat.le_refl _)] at al
      exact k _ _ acc okD (s1.1.trans x) frD al
/-! ### dicts of ints -/
abbrev kvN (L : List (Nat × Nat)) : List (Key × V) := L.map fun p => ((Sum.inl (p.1 : Int) : Key), nV p.2)
def Ty.dic (L : List (Nat × Nat)) : Ty := ⟨fun H v => ∃ a, v = .ref a ∧ H a = some (.dK (kvN L)), fun x ⟨a, e, h⟩ => ⟨a, e, x.at h notT_k⟩⟩
theorem kvN_put {L : List (Nat × Nat)} {p x : Nat} (h : p ∉ L.map (·.1)) : putK (kvN L) (Sum.inl (p : Int)) (nV x) = kvN (L ++ [(p, x)]) := by
  have e : valV (kvN L) (Sum.inl (p : Int)) = none := by
    induction L with
    | nil => rfl
    | cons a L ih =>
      rw [List.map_cons, List.mem_cons, not_or] at h
      show valV ((Sum.inl (a.1 : Int), nV a.2) :: kvN L) _ = none
      rw [valV_neg (fun e => h.1 (by injection e with e; omega))]
      exact ih h.2
  rw [putK_new _ e, kvN, kvN, List.map_append]
  rfl
/-- te gives a new dict, hidden -/
structure EVD (W : Wd) (G : Ctx) (te : TE) (L : List (Nat × Nat)) : Prop where
  run : ∀ {σ : L2.St} {H : Hp} {Q : VK}, W.ok H → Fr (W.v H) G σ → (∀ D H', D ∉ W.M → (W.own D (.dK (kvN L)) trivial).ok H' → Xt (W.v H) ((W.own D (.dK (kvN L)) trivial).v H') → Q (.ref D) H') → te σ H Q
theorem EVD.ev {te : TE} {L : List (Nat × Nat)} (h : EVD W G te L) : EV W G te (Ty.dic L) := ⟨fun okW fr k => h.run okW fr fun D H' hD ok x => by
  refine k _ H' ⟨x.trans own_sub, ok.show_⟩ ⟨D, rfl, ?_⟩
  rw [Wd.v, vis_eq hD]; exact ok.at⟩
theorem EVD.dcW {wi : TI} {g : TG} {tt : TT} {tk tv : TE} {vs : List Nat} (L : List α) (X : α → Ty) (f : α → Bool) (kk vv : α → Nat) (u : α → Ctx → Ctx)
    (hi : EVI W G wi (L.map X)) (hg : ∀ a ∈ L, GT g (X a) (u a) vs) (ht : ∀ (D : Addr) (o : HO), D ∉ W.M → ∀ a ∈ L, EVT (W.own D o trivial) (u a (wipeC G vs)) tt (f a))
    (hk : ∀ (D : Addr) (o : HO), D ∉ W.M → ∀ a ∈ L, f a = true → EV (W.own D o trivial) (u a (wipeC G vs)) tk (tN (kk a))) (hv : ∀ (D : Addr) (o : HO), D ∉ W.M → ∀ a ∈ L, f a = true → EV (W.own D o trivial) (u a (wipeC G vs)) tv (tN (vv a)))
    (hnd : (L.map kk).Nodup) (hl : L.length ≤ 900) : EVD W G (tDc wi g tt tk tv vs) ((L.filter f).map fun a => (kk a, vv a)) := ⟨fun {σ H0 Q} okW fr k => hi.run okW fr fun J H1 gd s1 hg1 I => by
  intro D hD
  have hDM := s1.2.nM hD
  let Z : Nat → List (Nat × Nat) := fun i => ((L.take i).filter f).map fun a => (kk a, vv a)
  let Pv : Nat → Hp → Prop := fun i H => (W.own D (.dK (kvN (Z i))) trivial).ok H ∧ Xt (W.v H1) ((W.own D (.dK (kvN (Z i))) trivial).v H)
  have P0 : Pv 0 (upd H1 D (.dK [])) := ⟨s1.2.own hD, by have e := own_v (W := W) (o := .dK []) (n := trivial) s1.2 hD; show Xt _ ((W.own D (.dK []) trivial).v _); rw [e]; exact Xt.refl _⟩
  refine ⟨fun i m H => m = L.length - i ∧ i ≤ L.length ∧ Pv i H, ⟨L.length, by simp, Nat.zero_le _, P0⟩, ?_⟩
  rintro i m H ⟨rfl, hil, okD, x⟩
  have gH := I.mo hg1 x
  by_cases hlt : i < L.length
  · refine .inr ⟨I.go gH (vis_sub _ _) (by rw [List.length_map]; exact hlt), Pv (i + 1), fun H' p => ⟨L.length - (i + 1), by omega, rfl, hlt, p⟩, fun y H' hy => ?_⟩
    have ha : L[i]? = some L[i] := List.getElem?_eq_getElem hlt
    have hm : L[i] ∈ L := List.getElem_mem hlt
    obtain ⟨xH, py⟩ := I.yld okD gH (by rw [List.getElem?_map, ha]; rfl) hy
    have ok' := (okD.pure xH)
    have frw := Fr.wipe (fr.mo (s1.1.trans (x.trans ok'.1))) vs
    refine hg _ hm _ H' _ _ y _ frw py fun σ' fr' hw => ⟨hw σ rfl, ?_⟩
    refine (ht D _ hDM _ hm).run ok'.2 fr' fun H3 s3 => ?_
    have et : Z (i + 1) = Z i ++ (if f L[i] = true then [(kk L[i], vv L[i])] else []) := by
      show ((L.take (i + 1)).filter f).map _ = _
      rw [take_filter_step hlt, List.map_append]
      by_cases hf : f L[i] = true
      · rw [if_pos hf, if_pos hf]; rfl
      · rw [if_neg hf, if_neg hf]; rfl
    by_cases hf : f L[i] = true
    · rw [if_pos hf]
      refine (hk D _ hDM _ hm hf).run s3.2 (fr'.mo s3.1) fun z H4 s4 pz => ?_
      have e4 : z = .int (kk L[i] : Int) := pz
      subst e4
      refine (hv D _ hDM _ hm hf).run s4.2 (fr'.mo (s3.trans s4).1) fun z2 H5 s5 pz2 => ?_
      have e5 : z2 = nV (vv L[i]) := pz2
      subst e5
      have sAll := ((ok'.trans s3).trans s4).trans s5
      have hnot : kk L[i] ∉ (Z i).map (·.1) := fun hmem => by
        obtain ⟨q, hq, e⟩ := List.mem_map.mp hmem
        obtain ⟨a, ha2, rfl⟩ := List.mem_map.mp hq
        have ha3 := (List.mem_filter.mp ha2).1
        obtain ⟨j, hj, hje⟩ := List.getElem_of_mem ha3
        rw [List.length_take] at hj
        rw [List.getElem_take] at hje
        have hj1 : j < L.length := by omega
        have := (List.getElem_inj (h₀ := by rw [List.length_map]; exact hj1) (h₁ := by rw [List.length_map]; exact hlt) hnd (i := j) (j := i)).mp (by rw [List.getElem_map, List.getElem_map, hje]; exact e)
        omega
      refine ⟨kvN (Z i), Sum.inl (kk L[i] : Int), rfl, s5.2.at, small1000 ?_, ?_⟩
      · rw [List.length_map]
        show (((L.take i).filter f).map _).length ≤ 1000
        rw [List.length_map]
        have := List.length_filter_le f (L.take i)
        rw [List.length_take] at this
        omega
      · have e6 : putK (kvN (Z i)) (Sum.inl (kk L[i] : Int)) (nV (vv L[i])) = kvN (Z (i + 1)) := by
          rw [kvN_put hnot, et, if_pos hf]
        rw [e6]
        refine ⟨s5.2.put hDM, ?_⟩
        rw [own_put (n := trivial)]
        exact x.trans sAll.1
    · rw [if_neg hf]
      have e6 : Z (i + 1) = Z i := by rw [et, if_neg hf, List.append_nil]
      show (W.own D (.dK (kvN (Z (i + 1)))) trivial).ok H3 ∧ Xt (W.v H1) ((W.own D (.dK (kvN (Z (i + 1)))) trivial).v H3)
      rw [e6]
      exact ⟨s3.2, x.trans (ok'.trans s3).1⟩
  · have e : i = L.length := by omega
    subst e
    refine .inl ⟨by have := I.stop gH (vis_sub _ _); rwa [List.length_map] at this, ?_⟩
    have et : kvN (Z L.length) = kvN ((L.filter f).map fun a => (kk a, vv a)) := by
      show kvN (((L.take L.length).filter f).map _) = _
      rw [List.take_of_length_le (Nat.le_refl _)]
    rw [et] at okD x
    exact k D H hDM okD (s1.1.trans x)⟩
theorem EV.dcW {wi : TI} {g : TG} {tt : TT} {tk tv : TE} {vs : List Nat} (L : List α) (X : α → Ty) (f : α → Bool) (kk vv : α → Nat) (u : α → Ctx → Ctx)
    (hi : EVI W G wi (L.map X)) (hg : ∀ a ∈ L, GT g (X a) (u a) vs) (ht : ∀ (D : Addr) (o : HO), D ∉ W.M → ∀ a ∈ L, EVT (W.own D o trivial) (u a (wipeC G vs)) tt (f a))
    (hk : ∀ (D : Addr) (o : HO), D ∉ W.M → ∀ a ∈ L, f a = true → EV (W.own D o trivial) (u a (wipeC G vs)) tk (tN (kk a))) (hv : ∀ (D : Addr) (o : HO), D ∉ W.M → ∀ a ∈ L, f a = true → EV (W.own D o trivial) (u a (wipeC G vs)) tv (tN (vv a)))
    (hnd : (L.map kk).Nodup) (hl : L.length ≤ 900) : EV W G (tDc wi g tt tk tv vs) (Ty.dic ((L.filter f).map fun a => (kk a, vv a))) := (EVD.dcW L X f kk vv u hi hg ht hk hv hnd hl).ev
/-! ### None, many times -/
theorem RV.repN {n : Nat} (h1 : 1 ≤ n) (h2 : n ≤ 100) : RV W (fun x y H Q => rRepT K x y H Q ∨ rRep1 K x y H Q) (Ty.tup [tNon]) (tN n) (Ty.tup (List.replicate n tNon)) := ⟨fun {x y H Q} ok px py k => by
  obtain ⟨a, vs, rfl, e, al⟩ := px
  cases py
  obtain ⟨v, rfl, ev⟩ := al1 al
  cases ev
  by_cases h : n = 1
  · subst h
    exact .inr ⟨a, [.non], rfl, rfl, .inl (rd_vis e), by simp, by decide, k _ H ok.st ⟨a, _, rfl, e, al⟩⟩
  · refine .inl ⟨a, (n : Int), [.non], rfl, rfl, .inl (rd_vis e), by simp, by omega, by omega, by decide, fun p hp => ?_⟩
    have e2 : (List.replicate ((n : Int).toNat) [V.non]).flatten = List.replicate n V.non := by
      rw [Int.toNat_natCast]
      simp
    rw [e2]
    refine k _ _ (ok.new hp) ⟨p, _, rfl, ok.rd_new hp, ?_⟩
    have := is_al (H := W.v (upd H p (.tup (List.replicate n V.non)))) (xs := List.replicate n V.non)
    rwa [List.map_replicate] at this⟩
end
end Fo
namespace Fo
open PySem PySem.Spec PyProof.Rows L2
section
variable {K : PySem.W.Frag} {W : Wd} {ts us : List Ty} {S : Ty}
theorem RC.eqArg {r : List V → Hp → VK → Prop} (e : ts = us) (h : RC W r us S) : RC W r ts S := e ▸ h
theorem RC.eqA {r : List V → Hp → VK → Prop} (e : ts = us) (h : RC W r [Ty.lst us] S) : RC W r [Ty.lst ts] S := e ▸ h
theorem RC.sortedN {ns ms : List Nat} (h0 : ns.length < 64) (hp : ms.Perm ns) (hs : (ms.map fun n : Nat => (n : Int)).Pairwise (· ≤ ·)) : RC W (rSorted K) [Ty.lst (ns.map tN)] (Ty.lst (ms.map tN)) := by
  have h := RC.sorted (W := W) (K := K) (ns := ns.map fun n : Nat => (n : Int)) (ms := ms.map fun n : Nat => (n : Int)) (by rwa [List.length_map]) (hp.map _) hs
  unfold lstF at h
  rw [List.map_map, List.map_map, List.map_map, List.map_map] at h
  exact h
end
end Fo
set_option Elab.async false
set_option linter.all false
set_option maxRecDepth 100000
/-! An own error made with nothing; a method called within a try. -/
namespace Fo
open PySem PySem.Spec PyProof.Rows L2
/-- X() of an own error class without __init__ -/
theorem pmk_own0 {X : Cx} {C : Addr} {bmB : List Value} {B newId initId : String} {x : Str} {p pos : Pos} (F : ExcBaseFacts B newId initId bmB) (q : PySem.W.excIn X.K C bmB newId = true) (gC : X.mg x = some (.ref C)) (kC : PySem.W.keepIn X.K (.ref C) = true) (r : Raises X (.ref C)) (hg : Gl X x)
    (hdb : (x == ("__debug__" : Str)) = false := by decide) : PMk X (.Call (.Name x p) [] [] pos) (fun _ H Q => Q (.ref C) none H) := by
  intro pins s σ H Q I h
  refine wpAny_Call_Name_kw (ld_glob I hg gC ?_ hdb)
  refine PySem.W.callWith_K0 I.kIn kC ?_
  show wpAny _ _ (call (.ref C) []) _ _ _
  obtain ⟨bm, N, nm, qn, bs, hdct, sn, sub, ab, col, dd, k0, k1, k2, k3, k5, mN, hC, hN, hni, T⟩ := exc_obj I.kIn q
  obtain ⟨hp1, g1, d1, tk1, os1⟩ := s
  refine wpAny_call_exc_subT F T hC hN hni (fun h' e hm => ?_) (Nat.zero_le _)
  exact mk_of I hm r h (I.hok.gone hm.new)
/-- o.m(e, ..) within a try -/
def tMethS (C : Addr) (m : Str) (sp : Sp) (E : L2.St → XK) (ta : TE) (t : TA) : TE := fun σ H Q => ta σ H fun x H1 => ∃ a dx fs, x = .ref a ∧ H1 a = some (.ins C dx fs) ∧ fs.lookup m = none ∧ t σ H1 fun vs H2 => sp (x :: vs) H2 Q (E σ)
theorem pe_methS {X : Cx} {CX : CXT} {k : Nat} {f C : Addr} {fd : FuncData} {ps : List Str} {sp : Sp} {E : L2.St → XK} {m : Str} {pos apos : Pos} {e o : Expr} {es : List Expr} {ta : TE} {t : TA} {pl : Sem Bool} (he : PE X o ta) (c : Cls X.K C) (hm : Meth X.K C m f)
    (F : FnOk X.prog X.w X.K X.mg X.base CX k f fd ps sp) (hr : Room k X.A) (hb : Binds X.K fd ps []) (hx : ∀ σ, PassesAt CX X σ (E σ)) (ha : PA X (e :: es) t)
    (hst : starEach (e :: es) X.env = (false, eval e X.env) :: starEach es X.env := by rfl) (hpl : (backTo pos (starEach es X.env)).any (·.1) = false := by rfl)
    (ht : eval (.Call (.Attribute o m apos) (e :: es) [] pos) X.env = (do
      let ov ← eval o X.env
      standAt apos.atName
      let (f, first) ← holding [ov] (getMethod ov m pl)
      callWith pos f first (backTo pos (starEach (e :: es) X.env)) (backToKw pos (keywordEach [] X.env))) := by rfl) :
    PE X (.Call (.Attribute o m apos) (e :: es) [] pos) (tMethS C m sp E ta t) := by
  refine ⟨fun pins s σ H Q I h => ?_⟩
  refine PySem.W.methodCall_KW (pl := pl) (thn (he.run pins s σ H _ I h) fun u s1 ⟨x, H1, I1, rx, a, dx, fs, ex, ea, l, q⟩ => ?_) ht
  subst ex
  obtain rfl : u = Value.ref a := rx
  refine getmeth_ok I1 ea c hm l ?_
  refine PySem.W.callWith_K (first := [.ref a]) (h₀ := X.base) I.ok.mod.kin hm.kp (thn (ha.run pos pins s1 σ H1 _ I1 q) fun us s2 ⟨vs, H2, I2, r, q2⟩ => ⟨I2.kIn, ?_⟩) hst hpl
  exact run_fnS (us := .ref a :: us) (vs := .ref a :: vs) F hr hb (hx σ) I2 (.cons rfl r) q2
end Fo
set_option Elab.async false
set_option linter.all false
set_option maxRecDepth 100000
/-! Rules whose fragment is named ahead: for use below a binder of the place. -/
namespace Fo
open PySem PySem.Spec PyProof.Rows L2
section
variable {X : Cx} {K : PySem.W.Frag} {w : World}
theorem op_inK (hK : X.K = K) : OpR X (compareOp .In) (rIn K false) := by subst hK; exact op_in_seq
theorem op_notInK (hK : X.K = K) : OpR X (compareOp .NotIn) (rIn K true) := by subst hK; exact op_notIn_seq
theorem ix_tupK (hK : X.K = K) : IxR X (rIxT K) := by subst hK; exact ix_tup
theorem ix_listK (hK : X.K = K) : IxR X (rIxL K) := by subst hK; exact ix_list
theorem sl_tupAK (hK : X.K = K) : SlR X (rSlA K) := by subst hK; exact sl_tupA
theorem op_catAK (hK : X.K = K) : OpR X (binaryOp .Add) (rCatA K) := by subst hK; exact op_catA
theorem op_catZK (hK : X.K = K) : OpR X (binaryOp .Add) (rCatZ K) := by subst hK; exact op_catZ
theorem cr_lenK (hK : X.K = K) : CallR X (.builtin "len") (rLenS K) := by subst hK; exact call_len_seq
theorem cr_tupOfK (hK : X.K = K) : CallR X (.type "tuple") (rTupOf K) := by subst hK; exact call_tuple_of
theorem cr_lstOfK (hK : X.K = K) : CallR X (.type "list") (rLstOf K) := by subst hK; exact call_list_of
theorem cr_sortedK (hK : X.K = K) : CallR X (.builtin "sorted") (rSorted K) := by subst hK; exact cr_sorted
theorem cr_allK (hK : X.K = K) (hc : X.calm = true) : CallR X (.builtin "all") (rAll K) := by subst hK; exact cr_all hc
theorem cr_setIK (hK : X.K = K) (hw : X.w = w) (hc : X.calm = true) : CallR X (.type "set") (rSetI K w) := by subst hK; subst hw; exact cr_setI hc
theorem cr_sortedSetK (hw : X.w = w) (hc : X.calm = true) : CallR X (.builtin "sorted") (rSortedSet w) := by subst hw; exact cr_sortedSet hc
theorem cr_lenSetK (hw : X.w = w) : CallR X (.builtin "len") (rLenSet w) := by subst hw; exact cr_lenSet
theorem cr_isiK (hK : X.K = K) : CallR X (.builtin "isinstance") (rIsi K) := by subst hK; exact call_isi
theorem pi_listK {tg : Expr} {l : Expr} {tl : TE} (hK : X.K = K) (hl : PE X l tl) : PI X tg l (iList K tl) := by subst hK; exact pi_list hl
theorem pi_tupK {tg : Expr} {l : Expr} {tl : TE} (hK : X.K = K) (hl : PE X l tl) : PI X tg l (iTup K tl) := by subst hK; exact pi_tup hl
theorem pe_fldK {e : Expr} {ta : TE} {f : Str} {pos : Pos} (hK : X.K = K) (he : PE X e ta) (hb : attributeBase e f X.env (eval e X.env) = eval e X.env) : PE X (.Attribute e f pos) (tFld K ta f) := by subst hK; exact pe_fld he hb
theorem pe_tindexK {o e : Expr} {es : List Expr} {to : TE} {t : TA} {apos cpos : Pos} (hK : X.K = K) (ho : PE X o to) (ha : PA X (e :: es) t)
    (hbase : attributeBase o "index" X.env (eval o X.env) = eval o X.env := by rfl)
    (hfew : ((backTo cpos (starEach (e :: es) X.env)).all (fun x => !x.1) && (backToKw cpos (keywordEach [] X.env)).all (fun x => x.1.isSome)
      && decide ((e :: es).length + ([] : List Keyword).length + (if ([] : List Keyword).isEmpty then 0 else 1) < 30)) = true := by rfl)
    (hline : (apos.endLine == cpos.line) = true := by rfl) (hs : starEach (e :: es) X.env = (false, eval e X.env) :: starEach es X.env := by rfl) (hplain : (backTo cpos (starEach es X.env)).any (·.1) = false := by rfl) :
    PE X (.Call (.Attribute o "index" apos) (e :: es) [] cpos) (tTIx K to t) := by subst hK; exact pe_tindex ho ha hbase hfew hline hs hplain
theorem pe_bmK {T : String} {name : Str} {id : String} {r : V → List V → Hp → VK → Prop} {o e : Expr} {es : List Expr} {to : TE} {t : TA} {apos cpos : Pos} (hK : X.K = K) (pa : PlainAttrs T) (slot : Slot T name id) (hty : typeOf (.builtin id) = pure (.type "method_descriptor")) (hm : MtR X id r) (ho : PE X o to) (ha : PA X (e :: es) t)
    (hbase : attributeBase o name X.env (eval o X.env) = eval o X.env := by rfl)
    (hfew : ((backTo cpos (starEach (e :: es) X.env)).all (fun x => !x.1) && (backToKw cpos (keywordEach [] X.env)).all (fun x => x.1.isSome)
      && decide ((e :: es).length + ([] : List Keyword).length + (if ([] : List Keyword).isEmpty then 0 else 1) < 30)) = true := by rfl)
    (hline : (apos.endLine == cpos.line) = true := by rfl) (hs : starEach (e :: es) X.env = (false, eval e X.env) :: starEach es X.env := by rfl) (hplain : (backTo cpos (starEach es X.env)).any (·.1) = false := by rfl) :
    PE X (.Call (.Attribute o name apos) (e :: es) [] cpos) (tBM K T r to t) := by subst hK; exact pe_bm pa slot hty hm ho ha hbase hfew hline hs hplain
end
end Fo
set_option Elab.async false
set_option linter.all false
set_option maxRecDepth 100000
set_option maxHeartbeats 1000000
namespace Fo
open PySem PySem.Spec PyProof.Rows L2
local macro_rules | `(tactic| walk_at "ev") => `(tactic| first
  | ((with_reducible apply EV.var); rfl)
  | (with_reducible exact EV.cst)
  | (with_reducible exact EVA.nil)
  | (with_reducible exact EVO.none)
  | ((with_reducible apply EVO.some); (· walk_at "ev"))
  | ((with_reducible apply EVA.cons); (· walk_at "ev"); (· walk_at "ev"))
  | ((with_reducible apply EV.op); (· walk_at "ev"); (· walk_at "ev"); (· walk_at "rv"))
  | ((with_reducible apply EV.un); (· walk_at "ev"); (· exact RU.neg))
  | ((with_reducible apply EV.chain); (· walk_at "ev"); (· walk_at "ev"); (· walk_at "rv"); (· walk_at "ev"); (· walk_at "rv"))
  | ((with_reducible apply EV.cb); (· walk_at "ev"); (· walk_at "rv"))
  | ((with_reducible apply EV.bits); (· walk_at "ev"))
  | ((with_reducible apply EV.slT); (· walk_at "ev"); (· walk_at "ev"); (· walk_at "ev"))
  | ((with_reducible apply EV.isN); (· walk_at "ev"))
  | ((with_reducible apply EV.notN); (· walk_at "ev"))
  | ((with_reducible apply EV.notV); (· walk_at "ev"))
  | ((with_reducible apply EV.andV); (· walk_at "ev"); (· intro _; walk_at "ev"))
  | ((with_reducible apply EVT.test); (· walk_at "ev"))
  | ((with_reducible apply EVT.B); (· walk_at "ev"))
  | ((with_reducible apply EVT.not); (· walk_at "ev"))
  | ((with_reducible apply EV.tup); (· walk_at "ev"); (· decide))
  | ((with_reducible apply EV.lst); (· walk_at "ev"); (· decide))
  | ((with_reducible apply EVI.list); (· walk_at "ev"))
  | ((with_reducible apply EVI.tup); (· walk_at "ev"))
  | ((with_reducible apply EVI.enum); (· walk_at "ev"))
  | ((with_reducible apply EVI.enumT); (· walk_at "ev"))
  | ((with_reducible apply EVI.zipT); (· walk_at "ev"); (· walk_at "ev")))
local macro_rules | `(tactic| walk_at "rv") => `(tactic| first
  | exact RV.I0
  | exact RV.oneShl (by decide)
  | exact RV.shrN
  | exact RV.odd
  | exact RC.isi_ii
  | exact RC.isi_ib
  | exact RC.isi_tt
  | exact RC.isi_ss
  | exact RC.lenT
  | exact RC.lenL
  | exact RC.sumF
  | exact RC.allF
  | exact RV.inTN
  | exact RV.inLN
  | exact RV.inTO
  | exact RC.tupOf
  | exact RC.lstOfT
  | exact RC.lstOfL
  | exact RC.int
  | exact RC.intB
  | exact RC.abs
  | exact RV.Eq rfl
  | exact RV.Ne rfl)
/-! ## standings -/
def und (S : List (Option Nat)) : List Nat := (List.range S.length).filter fun i => decide (S.getD i none = none)
def unu (S : List (Option Nat)) : List Nat := (List.range S.length).filter fun x => !decide (some x ∈ S)
def insR (r : List Nat) (x : Nat) : List Nat := (r.filter fun y => decide (y < x)) ++ x :: r.filter fun y => decide (x < y)
theorem zipIdx_rg {α : Type} (d : α) : ∀ (L : List α) (k : Nat), L.zipIdx k = (List.range L.length).map fun i => (L.getD i d, i + k)
  | [], k => rfl
  | a :: L, k => by
    rw [List.zipIdx_cons, zipIdx_rg d L (k + 1), List.length_cons, List.range_succ_eq_map, List.map_cons, List.map_map]
    congr 1
    · show (a, k) = (a, 0 + k); rw [Nat.zero_add]
    · refine List.map_congr_left fun i _ => ?_
      show (L.getD i d, i + (k + 1)) = (L.getD i d, i + 1 + k)
      rw [show i + (k + 1) = i + 1 + k by omega]
theorem enum_rg {α : Type} (d : α) (L : List α) (f : α → Ty) : ((L.map f).zipIdx.map fun p => Ty.tup [tN p.2, p.1]) = (List.range L.length).map fun i => Ty.tup [tN i, f (L.getD i d)] := by
  rw [zipIdx_tup, zipIdx_rg d L 0, List.map_map]
  rfl
theorem nums_mask : ∀ (n : Nat) (f : Nat → Bool), n ≤ 4 → nums (mask ((List.range n).filter f)) = (List.range n).filter f ∧ mask ((List.range n).filter f) < 16 := by
  have key : ∀ a b c d : Bool, ∀ n ≤ 4, (let g : Nat → Bool := fun i => match i with | 0 => a | 1 => b | 2 => c | _ => d; nums (mask ((List.range n).filter g)) = (List.range n).filter g ∧ mask ((List.range n).filter g) < 16) := by decide
  intro n f hn
  have h := key (f 0) (f 1) (f 2) (f 3) n hn
  have e : (List.range n).filter f = (List.range n).filter (fun i => match i with | 0 => f 0 | 1 => f 1 | 2 => f 2 | _ => f 3) := by
    refine List.filter_congr fun i hi => ?_
    have := List.mem_range.mp hi
    match i, this with
    | 0, _ => rfl
    | 1, _ => rfl
    | 2, _ => rfl
    | 3, _ => rfl
    | k + 4, h => omega
  rw [e]
  exact h
theorem nums_und {S : List (Option Nat)} (h : S.length ≤ 4) : nums (mask (und S)) = und S ∧ mask (und S) < 16 := nums_mask _ _ h
theorem nums_unu {S : List (Option Nat)} (h : S.length ≤ 4) : nums (mask (unu S)) = unu S ∧ mask (unu S) < 16 := nums_mask _ _ h
theorem und_mem {S : List (Option Nat)} {p : Nat} : p ∈ und S ↔ p < S.length ∧ S.getD p none = none := by
  unfold und
  rw [List.mem_filter, List.mem_range, decide_eq_true_iff]
theorem unu_mem {S : List (Option Nat)} {x : Nat} : x ∈ unu S ↔ x < S.length ∧ some x ∉ S := by
  unfold unu
  rw [List.mem_filter, List.mem_range]
  simp
theorem und_nd {S : List (Option Nat)} : (und S).Nodup := List.nodup_range.sublist List.filter_sublist
theorem unu_nd {S : List (Option Nat)} : (unu S).Nodup := List.nodup_range.sublist List.filter_sublist
/-- a standing, for tables of n people -/
def StOk (n : Nat) (S : List (Option Nat)) : Prop := S.length = n ∧ (und S).length = (unu S).length
/-- how many dealings there are behind: p gets x -/
def behind (R : List (List Nat)) (P T : List Nat) (p x : Nat) : Nat := cntL R (P.erase p) (T.erase x)
def opn (R : List (List Nat)) (P T : List Nat) (p : Nat) : List Nat := ((R.getD p []).filter fun x => decide (x ∈ T)).filter fun x => decide (0 < behind R P T p x)
def opr (R : List (List Nat)) (P T : List Nat) (x : Nat) : List Nat := ((List.range R.length).filter fun p => decide (p ∈ P) && decide (x ∈ R.getD p [])).filter fun p => decide (0 < behind R P T p x)
def known (R : List (List Nat)) (S : List (Option Nat)) (p : Nat) : List Nat := match S.getD p none with
  | some x => [x]
  | none => opn R (und S) (unu S) p
def settled (R : List (List Nat)) (S : List (Option Nat)) : List (Nat × Nat) := ((List.range S.length).filter fun p => decide ((known R S p).length = 1)).map fun p => (p, (known R S p).getD 0 0)
section
variable {P : Program} {w : World} {K : PySem.W.Frag} {mg : Str → Option Value} {base : Heap}
theorem set_cut {α : Type} {L : List α} {p : Nat} (x : α) (hp : p < L.length) (f : α → Ty) : (L.take p).map f ++ [f x] ++ (L.drop (p + 1)).map f = (L.set p x).map f := by
  rw [List.set_eq_take_append_cons_drop, if_pos hp, List.map_append, List.map_cons, List.append_assoc]
  rfl
theorem ok_after_draw (T : Tp K mg) : FnOk P w K mg base CX0 1 T.after_draw.a T.after_draw.fd p_after_draw (pSp (fun i : List (Option Nat) × Nat × Nat => [tStand i.1, tN i.2.1, tN i.2.2]) (fun i => i.1.length ≤ 4 ∧ i.2.1 < i.1.length) (fun i => tStand (i.1.set i.2.1 (some i.2.2)))) :=
  pure_ok T.after_draw.F sc_after_draw (fun _ => rfl) fun cdv A outer s H E hr => by
    have nd := sc_after_draw.nd
    refine ⟨_, (pss_one (ps_ret (pe_op op_catA (pe_op op_catA (pe_slice sl_tupA (pv 0) po_none (po_some (pv 1))) (pe_tup (pa_cons (pv 2) pa_nil))) (pe_slice sl_tupA (pv 0) (po_some (pe_op op_add (pv 1) pe_int)) po_none)))), fun W i hi => ?_⟩
    obtain ⟨S, p, x⟩ := i
    obtain ⟨h1, h2⟩ := hi
    have h1 : S.length ≤ 4 := h1
    have h2 : p < S.length := h2
    refine ST.ret (EV.eq (T := Ty.tup ((S.take p).map tO ++ [tN x] ++ (S.drop (p + 1)).map tO)) ?_ (congrArg Ty.tup (set_cut (f := tO) (some x) h2)))
    · refine EV.op (EV.op ?_ (EV.tup (EVA.cons (EV.var rfl) EVA.nil) (by show 1 ≤ 1000; decide)) (RV.catT (by simp; omega))) ?_ (RV.catT (by simp; omega))
      · refine EV.eq (EV.slT (EV.var rfl) EVO.none (EVO.some (EV.var rfl))) ?_
        rw [cut_to, List.map_take]
      · refine EV.eq (EV.slT (EV.var rfl) (EVO.some (i := ((p + 1 : Nat) : Int)) (EV.op (EV.var rfl) EV.cst RV.I0)) EVO.none) ?_
        rw [cut_from, List.map_drop]
theorem ne_n (a b : Nat) : (!decide (nV a = nV b)) = !decide (a = b) := by
  by_cases h : a = b
  · subst h; rw [decide_eq_true rfl, decide_eq_true rfl]
  · rw [decide_eq_false h, decide_eq_false (fun e => h (by injection e with e; omega))]
theorem ins_sorted {r : List Nat} {x : Nat} (h : r.Pairwise (· < ·)) : ((insR r x).map fun n : Nat => (n : Int)).Pairwise (· ≤ ·) := by
  rw [List.pairwise_map]
  unfold insR
  rw [List.pairwise_append]
  refine ⟨(h.sublist List.filter_sublist).imp fun h => by omega, ?_, fun a ha b hb => ?_⟩
  · refine List.pairwise_cons.mpr ⟨fun y hy => ?_, (h.sublist List.filter_sublist).imp fun h => by omega⟩
    have := of_decide_eq_true (List.mem_filter.mp hy).2
    omega
  · have ha := of_decide_eq_true (List.mem_filter.mp ha).2
    rcases List.mem_cons.mp hb with e | hb
    · omega
    · have := of_decide_eq_true (List.mem_filter.mp hb).2
      omega
theorem ins_mem {r : List Nat} {x y : Nat} : y ∈ insR r x ↔ y = x ∨ y ∈ r := by
  unfold insR
  rw [List.mem_append, List.mem_cons, List.mem_filter, List.mem_filter, decide_eq_true_iff, decide_eq_true_iff]
  by_cases h : y = x
  · simp [h]
  · have : y < x ∨ x < y := by omega
    constructor
    · rintro (⟨a, _⟩ | a | ⟨a, _⟩)
      · exact .inr a
      · exact .inl a
      · exact .inr a
    · rintro (a | a)
      · exact .inr (.inl a)
      · rcases this with q | q
        · exact .inl ⟨a, q⟩
        · exact .inr (.inr ⟨a, q⟩)
theorem ins_asc {r : List Nat} {x : Nat} (h : r.Pairwise (· < ·)) : (insR r x).Pairwise (· < ·) := by
  unfold insR
  rw [List.pairwise_append]
  refine ⟨(h.sublist List.filter_sublist), ?_, fun a ha b hb => ?_⟩
  · exact List.pairwise_cons.mpr ⟨fun y hy => of_decide_eq_true (List.mem_filter.mp hy).2, (h.sublist List.filter_sublist)⟩
  · have ha := of_decide_eq_true (List.mem_filter.mp ha).2
    rcases List.mem_cons.mp hb with e | hb
    · omega
    · have := of_decide_eq_true (List.mem_filter.mp hb).2
      omega
theorem ins_perm {r : List Nat} {x : Nat} (h : r.Pairwise (· < ·)) : (insR r x).Perm ((r.filter fun y => !decide (y = x)) ++ [x]) := by
  refine (List.perm_ext_iff_of_nodup ((ins_asc h).imp fun z => Nat.ne_of_lt z) ?_).mpr fun y => ?_
  · rw [List.nodup_append]
    refine ⟨(h.sublist List.filter_sublist).imp fun z => Nat.ne_of_lt z, by simp, fun a ha b hb e => ?_⟩
    rw [List.mem_singleton] at hb
    have := (List.mem_filter.mp ha).2
    simp at this
    omega
  · rw [ins_mem, List.mem_append, List.mem_filter, List.mem_singleton]
    by_cases e : y = x <;> simp [e]
abbrev sp_tie (T : Tp K mg) (f : List Nat → Nat → List Nat) : Sp := pSp (fun i : List (List Nat) × Nat × Nat => [tTab T i.1, tN i.2.1, tN i.2.2]) (fun i => RowsOk i.1 ∧ i.2.1 < i.1.length ∧ i.2.2 < i.1.length) (fun i => tTab T (i.1.set i.2.1 (f (i.1.getD i.2.1 []) i.2.2)))
theorem EV.others {W : Wd} {G : Ctx} {T : Tp K mg} {R : List (List Nat)} {p x i j k t : Nat} (hR : RowsOk R) (hp : p < R.length) (hi : G[i]? = some (some (tTab T R))) (hj : G[j]? = some (some (tN p))) (hk : (wipeC G [t])[k]? = some (some (tN x))) (hkt : k ≠ t) (ht : t < G.length) :
    EV W G (tLc (iTup K (tOp (rIxT K) (tFld K (tVar i) "rows") (tVar j))) (gName t) (tB (tOp rNe (tVar t) (tVar k))) (tVar t) [t]) (Ty.lst (((R.getD p []).filter fun y => !decide (y = x)).map tN)) := by
  have hm := hR.row hp
  refine EV.lc (R.getD p []) tN (fun y => !decide (y = x)) tN _ (EVI.tup (EV.ixT (EV.fld (EV.var hi) (has_rows T R)) (EV.var hj) rfl (by rw [List.getElem?_map, getD_some (z := ([] : List Nat)) hp]; rfl))) (fun a _ => GT.name (by simp)) (fun W' a ha => EVT.eq (EVT.B (EV.op (EV.var ?_) (EV.var ?_) (RV.Ne rfl))) (ne_n a x)) (fun W' a ha _ => EV.var ?_) (by have := hR.len4 hm; omega)
  · rw [List.getElem?_set_self (by rw [wipeC, wipeC, List.length_set]; exact ht)]
    rfl
  · rw [List.getElem?_set_ne (fun e => hkt e.symm)]
    exact hk
  · rw [List.getElem?_set_self (by rw [wipeC, wipeC, List.length_set]; exact ht)]
theorem ok_with_tie (T : Tp K mg) : FnOk P w K mg base CX0 6 T.with_tie.a T.with_tie.fd p_with_tie (sp_tie T insR) :=
  pure_ok T.with_tie.F sc_with_tie (fun _ => rfl) fun cdv A outer s H E hr => by
    have nd := sc_with_tie.nd
    refine ⟨_, (pss_cons (ps_expr (pe_call (ok_check_pair T) (hr.mono (by first | decide | omega)) rfl T.check_pair.m T.check_pair.F.kp T.check_pair.b .nil pass0 (pa_cons (pv 0) (pa_cons (pv 1) (pa_cons (pv 2) pa_nil))))) (pss_cons (ps_setLc (i := 3) (own := [("other", 4)]) rfl nd rfl rfl (sw_true rfl rfl rfl (by decide +kernel)) (pi_tup (pe_ix ix_tup (pe_fld (pv 0) rfl) (pv 1) (fun _ _ => rfl))) (blkOk_by (own := [("other", 4)]) (N := n_with_tie) (sc := defScope s_with_tie) (by decide +kernel)) (fun _ _ _ _ _ => (pg_name (i := 4) nd rfl (Or.inl rfl))) (fun _ _ _ _ _ => (pts_one (pt_cmpR op_ne (pv 4) (pv 2) (nomark _)))) (fun _ _ _ _ _ => (pv 4))) (pss_one (ps_ret (pe_call (ok_with_row T) (hr.mono (by first | decide | omega)) rfl T.with_row.m T.with_row.F.kp T.with_row.b .nil pass0 (pa_cons (pv 0) (pa_cons (pv 1) (pa_cons (pe_callB cr_sorted (by rfl) T.b_sorted (by decide +kernel) (pa_cons (pe_op op_cat (pv 3) (pe_lst (pa_cons (pv 2) pa_nil))) pa_nil)) pa_nil)))))))), fun W i hi => ?_⟩
    obtain ⟨R, p, x⟩ := i
    obtain ⟨hR, hp, hx⟩ := hi
    have hR : RowsOk R := hR
    have hp : p < R.length := hp
    have hx : x < R.length := hx
    have hm := hR.row hp
    have h4 := hR.len4 hm
    refine ST.drop (EV.call (R, p, x) (by walk_at "ev") ⟨hp, hx⟩) (ST.asg (EV.others hR hp rfl rfl rfl (by decide) (by show 4 < 5; decide)) ?_)
    refine ST.ret (EV.call (R, p, insR (R.getD p []) x) (EVA.cons (EV.var rfl) (EVA.cons (EV.var rfl) (EVA.cons (EV.cb (EVA.cons (EV.op (EV.var rfl) (EV.lst (EVA.cons (EV.var rfl) EVA.nil) (by show 1 ≤ 1000; decide)) (RV.cat ?_)) EVA.nil) (RC.eqA ?_ (RC.sortedN (ns := ((R.getD p []).filter fun y => !decide (y = x)) ++ [x]) ?_ (ins_perm (hR.2.2 _ hm).1) (ins_sorted (hR.2.2 _ hm).1)))) EVA.nil))) ⟨hR.2.1, hp⟩)
    · have := List.length_filter_le (fun y => !decide (y = x)) (R.getD p [])
      rw [List.length_map]
      show (List.filter (fun y => !decide (y = x)) (R.getD p [])).length + 1 ≤ 1000
      omega
    · rw [List.map_append]; rfl
    · have := List.length_filter_le (fun y => !decide (y = x)) (R.getD p [])
      rw [List.length_append]
      show _ + 1 < 64
      omega
theorem ok_without_tie (T : Tp K mg) : FnOk P w K mg base CX0 6 T.without_tie.a T.without_tie.fd p_without_tie (sp_tie T fun r x => r.filter fun y => !decide (y = x)) :=
  pure_ok T.without_tie.F sc_without_tie (fun _ => rfl) fun cdv A outer s H E hr => by
    have nd := sc_without_tie.nd
    refine ⟨_, (pss_cons (ps_expr (pe_call (ok_check_pair T) (hr.mono (by first | decide | omega)) rfl T.check_pair.m T.check_pair.F.kp T.check_pair.b .nil pass0 (pa_cons (pv 0) (pa_cons (pv 1) (pa_cons (pv 2) pa_nil))))) (pss_one (ps_ret (pe_call (ok_with_row T) (hr.mono (by first | decide | omega)) rfl T.with_row.m T.with_row.F.kp T.with_row.b .nil pass0 (pa_cons (pv 0) (pa_cons (pv 1) (pa_cons (pe_lc (own := [("other", 3)]) rfl nd (pi_tup (pe_ix ix_tup (pe_fld (pv 0) rfl) (pv 1) (fun _ _ => rfl))) (blkOk_by (own := [("other", 3)]) (N := n_without_tie) (sc := defScope s_without_tie) (by decide +kernel)) (fun _ _ _ _ _ => (pg_name (i := 3) nd rfl (Or.inl rfl))) (fun _ _ _ _ _ => (pts_one (pt_cmpR op_ne (pv 3) (pv 2) (nomark _)))) (fun _ _ _ _ _ => (pv 3))) pa_nil))))))), fun W i hi => ?_⟩
    obtain ⟨R, p, x⟩ := i
    obtain ⟨hR, hp, hx⟩ := hi
    have hR : RowsOk R := hR
    have hp : p < R.length := hp
    refine ST.drop (EV.call (R, p, x) (by walk_at "ev") ⟨hp, hx⟩) (ST.ret (EV.call (R, p, (R.getD p []).filter fun y => !decide (y = x)) (EVA.cons (EV.var rfl) (EVA.cons (EV.var rfl) (EVA.cons (EV.others hR hp rfl rfl rfl (by decide) (by show 3 < 4; decide)) EVA.nil))) ⟨hR.2.1, hp⟩))
abbrev sp_left_of : Sp := pSp (fun S : List (Option Nat) => [tStand S]) (fun S => S.length ≤ 4) (fun S => Ty.tup [tN (mask (und S)), tN (mask (unu S))])
theorem ok_left_of (T : Tp K mg) : FnOk P w K mg base CX0 2 T.left_of.a T.left_of.fd p_left_of sp_left_of :=
  pure_ok T.left_of.F sc_left_of (fun _ => rfl) fun cdv A outer s H E hr => by
    have nd := sc_left_of.nd
    refine ⟨_, (pss_cons (ps_setLc (i := 1) (own := [("person", 2), ("got", 3)]) rfl nd rfl rfl (sw_true rfl rfl rfl (by decide +kernel)) (pi_enumT (by rfl) T.b_enumerate (pa_cons (pv 0) pa_nil)) (blkOk_by (own := [("person", 2), ("got", 3)]) (N := n_left_of) (sc := defScope s_left_of) (by decide +kernel)) (fun _ _ _ _ _ => (pg_tupC (K := K) (n := 2) rfl (by rfl) (pgs_cons (pg_name (i := 2) nd rfl (Or.inl rfl)) (pgs_cons (pg_name (i := 3) nd rfl (Or.inl rfl)) pgs_nil)))) (fun _ _ _ _ _ => (pts_one (pt_cmp (pc_isN (pv 3))))) (fun _ _ _ _ _ => (pv 2))) (pss_cons (ps_setLc (i := 4) (own := [("thing", 5)]) rfl nd rfl rfl (sw_true rfl rfl rfl (by decide +kernel)) (pi_range1 (by rfl) T.b_range (pa_cons (pe_callB call_len_seq (by rfl) T.b_len PySem.boot_len (pa_cons (pv 0) pa_nil)) pa_nil)) (blkOk_by (own := [("thing", 5)]) (N := n_left_of) (sc := defScope s_left_of) (by decide +kernel)) (fun _ _ _ _ _ => (pg_name (i := 5) nd rfl (Or.inl rfl))) (fun _ _ _ _ _ => (pts_one (pt_cmpR (op_notInK (K := K) rfl) (pv 5) (pv 0) rfl))) (fun _ _ _ _ _ => (pv 5))) (pss_one (ps_ret (pe_tup (pa_cons (pe_call (ok_bits T) (hr.mono (by first | decide | omega)) rfl T.bits.m T.bits.F.kp T.bits.b .nil pass0 (pa_cons (pv 1) pa_nil)) (pa_cons (pe_call (ok_bits T) (hr.mono (by first | decide | omega)) rfl T.bits.m T.bits.F.kp T.bits.b .nil pass0 (pa_cons (pv 4) pa_nil)) pa_nil))))))), fun W S hS => ?_⟩
    have hS : S.length ≤ 4 := hS
    refine ST.asg (EV.lc (List.range S.length) (fun i => Ty.tup [tN i, tO (S.getD i none)]) (fun i => decide (S.getD i none = none)) tN _ (EVI.eq (EVI.enumT (by walk_at "ev")) (enum_rg none S tO)) (fun a _ => GT.two (by decide) (by decide)) (fun W' a ha => ?_) (fun W' a ha _ => EV.var rfl) (by rw [List.length_range]; omega)) ?_
    · refine EVT.eq (EVT.B (EV.isN (EV.var rfl))) ?_
      cases S.getD a none with
      | none => rfl
      | some k => rfl
    refine ST.asg (EV.lc (List.range S.length) tN (fun x => !decide (some x ∈ S)) tN _ (EVI.rng1 (EVA.cons (EV.eq (EV.cb (by walk_at "ev") RC.lenT) (by rw [List.length_map])) EVA.nil) (by omega)) (fun a _ => GT.name (by decide)) (fun W' a ha => EVT.B (EV.op (EV.var rfl) (EV.var rfl) RV.inTO)) (fun W' a ha _ => EV.var rfl) (by rw [List.length_range]; omega)) ?_
    refine ST.ret (EV.tup (EVA.cons (EV.call (und S) (by walk_at "ev") ?_) (EVA.cons (EV.call (unu S) (by walk_at "ev") ?_) EVA.nil)) (by show 2 ≤ 1000; decide))
    · refine ⟨?_, fun x hx => ?_⟩
      · have := List.length_filter_le (fun i => decide (S.getD i none = none)) (List.range S.length)
        rw [List.length_range] at this
        unfold und
        omega
      · have := (und_mem.mp hx).1
        omega
    · refine ⟨?_, fun x hx => ?_⟩
      · have := List.length_filter_le (fun x => !decide (some x ∈ S)) (List.range S.length)
        rw [List.length_range] at this
        unfold unu
        omega
      · have := (unu_mem.mp hx).1
        omega
/-- what a call of a counter asks -/
def LeftOk (R : List (List Nat)) (P T : List Nat) : Prop := RowsOk R ∧ P.Nodup ∧ (∃ f g : Nat → Bool, P = (List.range R.length).filter f ∧ T = (List.range R.length).filter g) ∧ P.length = T.length
end
end Fo
set_option Elab.async false
set_option linter.all false
set_option maxRecDepth 100000
set_option maxHeartbeats 1000000
namespace Fo
open PySem PySem.Spec PyProof.Rows L2
local macro_rules | `(tactic| walk_at "ev") => `(tactic| first
  | ((with_reducible apply EV.var); rfl)
  | (with_reducible exact EV.cst)
  | (with_reducible exact EVA.nil)
  | (with_reducible exact EVO.none)
  | ((with_reducible apply EVO.some); (· walk_at "ev"))
  | ((with_reducible apply EVA.cons); (· walk_at "ev"); (· walk_at "ev"))
  | ((with_reducible apply EV.op); (· walk_at "ev"); (· walk_at "ev"); (· walk_at "rv"))
  | ((with_reducible apply EV.un); (· walk_at "ev"); (· exact RU.neg))
  | ((with_reducible apply EV.chain); (· walk_at "ev"); (· walk_at "ev"); (· walk_at "rv"); (· walk_at "ev"); (· walk_at "rv"))
  | ((with_reducible apply EV.cb); (· walk_at "ev"); (· walk_at "rv"))
  | ((with_reducible apply EV.bits); (· walk_at "ev"))
  | ((with_reducible apply EV.slT); (· walk_at "ev"); (· walk_at "ev"); (· walk_at "ev"))
  | ((with_reducible apply EV.isN); (· walk_at "ev"))
  | ((with_reducible apply EV.notN); (· walk_at "ev"))
  | ((with_reducible apply EV.notV); (· walk_at "ev"))
  | ((with_reducible apply EV.andV); (· walk_at "ev"); (· intro _; walk_at "ev"))
  | ((with_reducible apply EVT.test); (· walk_at "ev"))
  | ((with_reducible apply EVT.B); (· walk_at "ev"))
  | ((with_reducible apply EVT.not); (· walk_at "ev"))
  | ((with_reducible apply EV.tup); (· walk_at "ev"); (· decide))
  | ((with_reducible apply EV.lst); (· walk_at "ev"); (· decide))
  | ((with_reducible apply EVI.list); (· walk_at "ev"))
  | ((with_reducible apply EVI.tup); (· walk_at "ev"))
  | ((with_reducible apply EVI.enum); (· walk_at "ev"))
  | ((with_reducible apply EVI.enumT); (· walk_at "ev"))
  | ((with_reducible apply EVI.zipT); (· walk_at "ev"); (· walk_at "ev")))
local macro_rules | `(tactic| walk_at "rv") => `(tactic| first
  | exact RV.I0
  | exact RV.oneShl (by decide)
  | exact RV.shrN
  | exact RV.odd
  | exact RC.isi_ii
  | exact RC.isi_ib
  | exact RC.isi_tt
  | exact RC.isi_ss
  | exact RC.lenT
  | exact RC.lenL
  | exact RC.sumF
  | exact RC.allF
  | exact RV.inTN
  | exact RV.inLN
  | exact RV.inTO
  | exact RC.tupOf
  | exact RC.lstOfT
  | exact RC.lstOfL
  | exact RC.int
  | exact RC.intB
  | exact RC.abs
  | exact RV.Eq rfl
  | exact RV.Ne rfl)
/-! ## defs that reckon with a counter -/
theorem Fr.up {H : Hp} {T U : Ty} (h : ∀ v, T.p H v → U.p H v) : ∀ {g : Ctx} {s : L2.St} (i : Nat), Fr H (g.set i (some T)) s → Fr H (g.set i (some U)) s
  | [], [], _, _ => trivial
  | [], _ :: _, _, h0 => h0.elim
  | _ :: _, some v :: s, 0, h0 => ⟨h v h0.1, h0.2⟩
  | _ :: _, none :: s, 0, h0 => h0.elim
  | _ :: _, [], 0, h0 => h0.elim
  | none :: g, _ :: s, i + 1, h0 => Fr.up (g := g) (s := s) h i h0
  | some V :: g, some v :: s, i + 1, h0 => ⟨h0.1, Fr.up (g := g) (s := s) h i h0.2⟩
  | some V :: g, none :: s, i + 1, h0 => h0.elim
  | none :: _, [], _ + 1, h0 => h0.elim
  | some _ :: _, [], _ + 1, h0 => h0.elim
theorem ST.appL {K : PySem.W.Frag} {W : Wd} {G : Ctx} {te : TE} {R : Ty} {u0 : TS} {α : Type} {wi : TI} {g : TG} {tt : TT} {vs : List Nat} {i : Nat} (L : List α) (X : α → Ty) (f : α → Bool) (T : α → Ty) (u : α → Ctx → Ctx)
    (hi : ∀ l, EVI (W.own l (.lst []) trivial) (G.set i (some (Ty.is (.ref l)))) wi (L.map X)) (hg : ∀ a ∈ L, GT g (X a) (u a) vs) (hu : ∀ a ∈ L, ∀ l, (u a (G.set i (some (Ty.is (.ref l)))))[i]? = some (some (Ty.is (.ref l)))) (hd : ∀ a ∈ L, ∀ l H σ, Fr H (u a (G.set i (some (Ty.is (.ref l))))) σ → Fr H (G.set i (some (Ty.is (.ref l)))) σ)
    (ht : ∀ l acc, l ∉ W.M → ∀ a ∈ L, EVT (W.own l (.lst acc) trivial) (u a (G.set i (some (Ty.is (.ref l))))) tt (f a)) (he : ∀ l acc, l ∉ W.M → ∀ a ∈ L, f a = true → EV (W.own l (.lst acc) trivial) (u a (G.set i (some (Ty.is (.ref l))))) te (T a)) (hn : L.length ≤ 900)
    (k : ST W (G.set i (some (Ty.lst ((L.filter f).map T)))) u0 R) :
    ST W G (tSeq (tAsg (tLst tNil) (gName i)) (tSeq (tFor wi g (tIfS tt (tDrop (tBM K "list" rAppend (tVar i) (tCons te tNil))) tNext)) u0)) R := ⟨fun {σ H D} ok fr kn kr => by
  refine ⟨by show 0 ≤ sizeLine; omega, fun l hl => ?_⟩
  have hlM := ok.nM hl
  have okO : (W.own l (.lst []) trivial).ok (upd H l (.lst [])) := ok.own hl
  have vO : (W.own l (.lst []) trivial).v (upd H l (.lst [])) = W.v H := own_v ok hl
  refine for_append (K := K) (D := { D with nx := u0 D }) L X f T u hlM (hi l) hg (fun a ha => hu a ha l) (fun a ha H σ => hd a ha l H σ) (fun acc a ha => ht l acc hlM a ha) (fun acc a ha hf => he l acc hlM a ha hf) hn okO (by rw [vO]; exact Fr.set rfl i fr) fun σ' H' acc ok' x' fr' al' => ?_
  rw [vO] at x'
  have sub : Xt ((W.own l (.lst acc) trivial).v H') (W.v H') := own_sub
  have s : W.st H H' := ⟨x'.trans sub, ok'.show_⟩
  refine k.run s.2 (Fr.up (fun v e => ?_) i (fr'.mo sub)) (fun σ2 H2 s2 => kn σ2 H2 (s.trans s2)) fun v H2 s2 => kr v H2 (s.trans s2)
  have e : v = .ref l := e
  subst e
  refine ⟨l, acc, rfl, ?_, al'.mo sub⟩
  rw [Wd.v, vis_eq hlM]
  exact ok'.at⟩
section
variable {P : Program} {w : World} {K : PySem.W.Frag} {mg : Str → Option Value} {base : Heap}
theorem cnt_ok {x qual : Str} {st : Stmt} {f : Addr} {fd : FuncData} {N ps : List Str} {k : Nat} {ι : Type} {Rr : ι → List (List Nat)} {args : ι → Addr → List Ty} {ok : ι → Prop} {res : ι → Ty} (F : Fun K x qual st f fd) (S : FnScope N ps (defScope st)) (hl : ∀ i d, (args i d).length = ps.length)
    (hb : ∀ (cdv : Value) (A : Around) (outer : List Env) (s : Shared) (H : Hp) (E : XK), Room k (A.deeper (envOfC qual (defScope st) s.heap.objs.size f cdv)) →
      ∃ t, PSs (cxOf CX0 P w K mg base N qual (defScope st) f cdv A outer s H E).nox (defBody st) t ∧ ∀ (W : Wd) (d : Addr) (i : ι), ok i → HasCnt W d (Rr i) → ST W ((args i d).map some ++ List.replicate (N.length - ps.length) none) t (res i)) :
    FnOk P w K mg base CX0 (k + 1) f fd ps (cSp Rr args ok res) := by
  refine F.ok S (fun vs H Q E h => ?_) (fun cdv A outer s H vs Q E hr h => ?_)
  · obtain ⟨i, W, d, _, _, _, al, _⟩ := h
    rw [← al.len, hl]
  · obtain ⟨i, W, d, hi, c, okW, al, kq⟩ := h
    obtain ⟨t, ht, hs⟩ := hb cdv A outer s H E hr
    refine ⟨t, ht, ?_⟩
    have e : vs.length = ps.length := by rw [← al.len, hl]
    have fr : Fr (W.v H) ((args i d).map some ++ List.replicate (N.length - ps.length) none) (L2.start N vs) := by
      unfold L2.start
      rw [e]
      exact Fr.start al
    exact (hs W d i hi c).run okW fr (fun σ' H' s p => kq .non H' s p) fun v H' s p => kq v H' s p
theorem nums_len (P : Nat) : (nums P).length ≤ 4 := by
  unfold nums
  have := List.length_filter_le (fun i => P.testBit i) (List.range 4)
  rwa [List.length_range] at this
/-- the people P and the things T, as masks -/
def MkOk (R : List (List Nat)) (P' t : Nat) : Prop := RowsOk R ∧ P' < 16 ∧ t < 16 ∧ (nums P').length = (nums t).length ∧ ∀ x ∈ nums P', x < R.length
theorem MkOk.of {R : List (List Nat)} {P' t : Nat} (h : MkOk R P' t) : OfOk 4 (R, P', t) := ⟨h.1, h.2.1, h.2.2.1, h.2.2.2.1, nums_len _, h.2.2.2.2⟩
theorem MkOk.st {R : List (List Nat)} {S : List (Option Nat)} (hR : RowsOk R) (h : StOk R.length S) : MkOk R (mask (und S)) (mask (unu S)) := by
  have h4 : S.length ≤ 4 := by rw [h.1]; exact hR.2.1
  refine ⟨hR, (nums_und h4).2, (nums_unu h4).2, by rw [(nums_und h4).1, (nums_unu h4).1]; exact h.2, fun x hx => ?_⟩
  rw [(nums_und h4).1] at hx
  have := (und_mem.mp hx).1
  rwa [h.1] at this
theorem MkOk.less {R : List (List Nat)} {P' t p x : Nat} (h : MkOk R P' t) (hp : p ∈ nums P') (hx : x ∈ nums t) : OfOk 4 (R, P' - 2 ^ p, t - 2 ^ x) ∧ nums (P' - 2 ^ p) = (nums P').erase p ∧ nums (t - 2 ^ x) = (nums t).erase x ∧ (p < 16 ∧ 2 ^ p ≤ P') ∧ (x < 16 ∧ 2 ^ x ≤ t) := by
  obtain ⟨h1, h2, h3, h4, h5⟩ := h
  obtain ⟨a1, a2, a3⟩ := nums_sub P' h2 p (nums_lt hp) hp
  obtain ⟨b1, b2, b3⟩ := nums_sub t h3 x (nums_lt hx) hx
  have c1 := nums_lt hp
  have c2 := nums_lt hx
  refine ⟨⟨h1, a1, b1, ?_, nums_len _, fun y hy => ?_⟩, a2, b2, ⟨by omega, a3⟩, ⟨by omega, b3⟩⟩
  · show (nums (P' - 2 ^ p)).length = (nums (t - 2 ^ x)).length
    rw [a2, b2, List.length_erase_of_mem hp, List.length_erase_of_mem hx, h4]
  · have hy : y ∈ nums (P' - 2 ^ p) := hy
    rw [a2] at hy
    exact h5 y (List.mem_of_mem_erase hy)
abbrev sp_many (T : Tp K mg) : Sp := cSp (fun i : List (List Nat) × List (Option Nat) => i.1) (fun i d => [tCnt T i.1 d, tStand i.2]) (fun i => RowsOk i.1 ∧ StOk i.1.length i.2) (fun i => tN (cntL i.1 (und i.2) (unu i.2)))
theorem ok_many_behind (T : Tp K mg) : FnOk P w K mg base CX0 8 T.many_behind.a T.many_behind.fd p_many_behind (sp_many T) :=
  cnt_ok T.many_behind.F sc_many_behind (fun _ _ => rfl) fun cdv A outer s H E hr => by
    have nd := sc_many_behind.nd
    refine ⟨_, (pss_cons (ps_asg (pe_call (ok_left_of T) (hr.mono (by first | decide | omega)) rfl T.left_of.m T.left_of.F.kp T.left_of.b .nil pass0 (pa_cons (pv 1) pa_nil)) (pg_tup (by rfl) (pgs_cons (pg_name (i := 2) nd rfl (Or.inl rfl)) (pgs_cons (pg_name (i := 3) nd rfl (Or.inl rfl)) pgs_nil)))) (pss_one (ps_ret (pe_meth (pv 0) T.Counter.cl T.Counter_of.mt (ok_of T 4) (hr.mono (by first | decide | omega)) T.Counter_of.b .nil pass0 (pa_cons (pv 2) (pa_cons (pv 3) pa_nil)))))), fun W d i hi c => ?_⟩
    obtain ⟨R, S⟩ := i
    obtain ⟨hR, hS⟩ := hi
    have hR : RowsOk R := hR
    have hS : StOk R.length S := hS
    have h4 : S.length ≤ 4 := by rw [hS.1]; exact hR.2.1
    refine ST.asg2 (EV.call S (by walk_at "ev") h4) (ST.retTo (EV.methC (R, mask (und S), mask (unu S)) c (EV.var rfl) (isI_cnt T R d (by decide +kernel)) (by walk_at "ev") (MkOk.st hR hS).of) ?_)
    show tN _ = tN _
    rw [(nums_und h4).1, (nums_unu h4).1]
abbrev tMany (n m : Nat) : Ty := Ty.tup [tN n, tN m]
abbrev sp_opens (T : Tp K mg) : Sp := cSp (fun i : List (List Nat) × Nat × Nat × Nat => i.1) (fun i d => [tCnt T i.1 d, tN i.2.1, tN i.2.2.1, tN i.2.2.2]) (fun i => MkOk i.1 i.2.1 i.2.2.1 ∧ i.2.2.2 ∈ nums i.2.1)
  (fun i => Ty.lst ((opn i.1 (nums i.2.1) (nums i.2.2.1) i.2.2.2).map fun x => tMany x (behind i.1 (nums i.2.1) (nums i.2.2.1) i.2.2.2 x)))
theorem gt0 (n : Nat) : decide ((n : Int) > (0 : Int)) = decide (0 < n) := by
  by_cases h : 0 < n
  · rw [decide_eq_true h, decide_eq_true]; omega
  · rw [decide_eq_false h, decide_eq_false]; omega
theorem ok_opens (T : Tp K mg) : FnOk P w K mg base CX0 8 T.opens.a T.opens.fd p_opens (sp_opens T) :=
  cnt_ok T.opens.F sc_opens (fun _ _ => rfl) fun cdv A outer s H E hr => by
    have nd := sc_opens.nd
    refine ⟨_, (pss_cons (ps_set (i := 4) nd rfl (Or.inr rfl) (pe_call (ok_without T) (hr.mono (by first | decide | omega)) rfl T.without.m T.without.F.kp T.without.b .nil pass0 (pa_cons (pv 1) (pa_cons (pv 3) pa_nil)))) (pss_cons (ps_setLc (i := 5) (own := [("thing", 6)]) rfl nd rfl rfl (sw_true rfl rfl rfl (by decide +kernel)) (pi_list (pe_meth (pv 0) T.Counter.cl T.Counter_among.mt (ok_Counter_among T) (hr.mono (by first | decide | omega)) T.Counter_among.b .nil pass0 (pa_cons (pv 3) (pa_cons (pv 2) pa_nil)))) (blkOk_by (own := [("thing", 6)]) (N := n_opens) (sc := defScope s_opens) (by decide +kernel)) (fun _ _ _ _ _ => (pg_name (i := 6) nd rfl (Or.inl rfl))) (fun _ _ _ _ _ => pts_nil) (fun _ _ _ _ _ => (pe_tup (pa_cons (pv 6) (pa_cons (pe_meth (pv 0) T.Counter.cl T.Counter_of.mt (ok_of T 4) (hr.mono (by first | decide | omega)) T.Counter_of.b .nil pass0 (pa_cons (pv 4) (pa_cons (pe_call (ok_without T) (hr.mono (by first | decide | omega)) rfl T.without.m T.without.F.kp T.without.b .nil pass0 (pa_cons (pv 2) (pa_cons (pv 6) pa_nil))) pa_nil))) pa_nil))))) (pss_one (ps_ret (pe_lc (own := [("thing", 6), ("many", 7)]) rfl nd (pi_list (pv 5)) (blkOk_by (own := [("thing", 6), ("many", 7)]) (N := n_opens) (sc := defScope s_opens) (by decide +kernel)) (fun _ _ _ _ _ => (pg_tupC (K := K) (n := 2) rfl (by rfl) (pgs_cons (pg_name (i := 6) nd rfl (Or.inl rfl)) (pgs_cons (pg_name (i := 7) nd rfl (Or.inl rfl)) pgs_nil)))) (fun _ _ _ _ _ => (pts_one (pt_cmpR op_gt (pv 7) pe_int (nomark _)))) (fun _ _ _ _ _ => (pe_tup (pa_cons (pv 6) (pa_cons (pv 7) pa_nil))))))))), fun W d i hi c => ?_⟩
    obtain ⟨R, Pm, t, p⟩ := i
    obtain ⟨hM, hp⟩ := hi
    have hM : MkOk R Pm t := hM
    have hp : p ∈ nums Pm := hp
    have hpl := hM.2.2.2.2 _ hp
    obtain ⟨a1, a2, a3⟩ := nums_sub Pm hM.2.1 p (nums_lt hp) hp
    have hlen : (amongR R p t).length ≤ 4 := by
      have h1 := List.length_filter_le (fun x => decide (x ∈ nums t)) (R.getD p [])
      have h2 := hM.1.len4 (hM.1.row hpl)
      unfold amongR
      omega
    refine ST.asg (EV.call (Pm, p) (by walk_at "ev") ⟨by show p < 16; have := nums_lt hp; omega, a3⟩) ?_
    refine ST.asg (EV.lcYW (amongR R p t) tN (fun x => tMany x (behind R (nums Pm) (nums t) p x)) _ (EVI.list (EV.meth (d, R, p, t) (EV.var rfl) (isI_cnt T R d (by decide +kernel)) (by walk_at "ev") ⟨hM.1, hpl⟩)) (fun a _ => GT.name (by decide)) (fun D o hD x hxm => ?_) (by omega)) ?_
    · have hxt : x ∈ nums t := of_decide_eq_true (List.mem_filter.mp hxm).2
      obtain ⟨q1, q2, q3, q4, q5⟩ := hM.less hp hxt
      refine EV.tup (EVA.cons (EV.var rfl) (EVA.cons (EV.eq (EV.methC (R, Pm - 2 ^ p, t - 2 ^ x) (c.own hD) (EV.var rfl) (isI_cnt T R d (by decide +kernel)) (EVA.cons (EV.var rfl) (EVA.cons (EV.call (t, x) (by walk_at "ev") q5) EVA.nil)) q1) ?_) EVA.nil)) (by show 2 ≤ 1000; decide)
      show tN _ = tN _
      rw [q2, q3]; rfl
    refine ST.ret (EV.lc (amongR R p t) (fun x => tMany x (behind R (nums Pm) (nums t) p x)) (fun x => decide (0 < behind R (nums Pm) (nums t) p x)) (fun x => tMany x (behind R (nums Pm) (nums t) p x)) _ (by walk_at "ev") (fun a _ => GT.two (by decide) (by decide)) (fun W' a ha => EVT.eq (EVT.B (by walk_at "ev")) (gt0 _)) (fun W' a ha _ => EV.tup (EVA.cons (EV.var rfl) (EVA.cons (EV.var rfl) EVA.nil)) (by show 2 ≤ 1000; decide)) (by omega))
abbrev sp_openers (T : Tp K mg) : Sp := cSp (fun i : List (List Nat) × Nat × Nat × Nat => i.1) (fun i d => [tCnt T i.1 d, tN i.2.1, tN i.2.2.1, tN i.2.2.2]) (fun i => MkOk i.1 i.2.1 i.2.2.1 ∧ i.2.2.2 ∈ nums i.2.2.1)
  (fun i => Ty.lst ((opr i.1 (nums i.2.1) (nums i.2.2.1) i.2.2.2).map fun p => tMany p (behind i.1 (nums i.2.1) (nums i.2.2.1) p i.2.2.2)))
theorem ok_openers (T : Tp K mg) : FnOk P w K mg base CX0 8 T.openers.a T.openers.fd p_openers (sp_openers T) :=
  cnt_ok T.openers.F sc_openers (fun _ _ => rfl) fun cdv A outer s H E hr => by
    have nd := sc_openers.nd
    refine ⟨_, (pss_cons (ps_set (i := 4) nd rfl (Or.inl rfl) (pe_call (ok_without T) (hr.mono (by first | decide | omega)) rfl T.without.m T.without.F.kp T.without.b .nil pass0 (pa_cons (pv 2) (pa_cons (pv 3) pa_nil)))) (pss_cons (ps_set (i := 5) nd rfl (Or.inl rfl) (pe_lst pa_nil)) (pss_cons (ps_for PassesOwn.never rfl (pi_enumT (by rfl) T.b_enumerate (pa_cons (pe_fld (pv 0) rfl) pa_nil)) (pg_tup (by rfl) (pgs_cons (pg_name (i := 6) nd rfl (Or.inl rfl)) (pgs_cons (pg_name (i := 7) nd rfl (Or.inl rfl)) pgs_nil))) (pss_one (ps_if (PW.pt (pw_and (pt_cmpR op_eq (pe_op op_odd (pe_op op_shrN (pv 1) (pv 6)) pe_int) pe_int (nomark _)) (pw_and1 (pt_cmpR op_in_seq (pv 3) (pv 7) rfl)))) (pss_one (ps_expr (pe_bm PySem.F.plainAttrs_list PySem.F.slot_list_append PySem.F.type_list_append mt_append (pv 5) (pa_cons (pe_tup (pa_cons (pv 6) (pa_cons (pe_meth (pv 0) T.Counter.cl T.Counter_of.mt (ok_of T 4) (hr.mono (by first | decide | omega)) T.Counter_of.b .nil pass0 (pa_cons (pe_call (ok_without T) (hr.mono (by first | decide | omega)) rfl T.without.m T.without.F.kp T.without.b .nil pass0 (pa_cons (pv 1) (pa_cons (pv 6) pa_nil))) (pa_cons (pv 4) pa_nil))) pa_nil))) pa_nil)))) pss_nil))) (pss_one (ps_ret (pe_lc (own := [("person", 6), ("many", 8)]) rfl nd (pi_list (pv 5)) (blkOk_by (own := [("person", 6), ("many", 8)]) (N := n_openers) (sc := defScope s_openers) (by decide +kernel)) (fun _ _ _ _ _ => (pg_tupC (K := K) (n := 2) rfl (by rfl) (pgs_cons (pg_name (i := 6) nd rfl (Or.inl rfl)) (pgs_cons (pg_name (i := 8) nd rfl (Or.inl rfl)) pgs_nil)))) (fun _ _ _ _ _ => (pts_one (pt_cmpR op_gt (pv 8) pe_int (nomark _)))) (fun _ _ _ _ _ => (pe_tup (pa_cons (pv 6) (pa_cons (pv 8) pa_nil)))))))))), fun W d i hi c => ?_⟩
    obtain ⟨R, Pm, t, x⟩ := i
    obtain ⟨hM, hx⟩ := hi
    have hM : MkOk R Pm t := hM
    have hx : x ∈ nums t := hx
    have hR4 := hM.1.2.1
    obtain ⟨a1, a2, a3⟩ := nums_sub t hM.2.2.1 x (nums_lt hx) hx
    refine ST.asg (EV.call (t, x) (by walk_at "ev") ⟨by show x < 16; have := nums_lt hx; omega, a3⟩) ?_
    refine ST.appL (vs := [6, 7]) (List.range R.length) (fun p => Ty.tup [tN p, tRow (R.getD p [])]) (fun p => decide (p ∈ nums Pm) && decide (x ∈ R.getD p [])) (fun p => tMany p (behind R (nums Pm) (nums t) p x)) _ (fun l => EVI.eq (EVI.enumT (EVA.cons (EV.fld (EV.var rfl) (has_crows T R d)) EVA.nil)) (enum_rg [] R tRow)) (fun a _ => GT.two (by decide) (by decide)) (fun a ha l => rfl) (fun a ha l H σ q => Fr.unset (Fr.unset q rfl) rfl) (fun l acc hl a ha => ?_) (fun l acc hl a ha hf => ?_) (by rw [List.length_range]; omega) ?_
    · refine EVT.eq (EVT.and (EVT.B (by walk_at "ev")) fun _ => EVT.B (by walk_at "ev")) ?_
      have := List.mem_range.mp ha
      rw [nums_bit (by omega), ← testBit_eq]
      rfl
    · rw [Bool.and_eq_true, decide_eq_true_iff, decide_eq_true_iff] at hf
      obtain ⟨q1, q2, q3, q4, q5⟩ := hM.less hf.1 hx
      refine EV.tup (EVA.cons (EV.var rfl) (EVA.cons (EV.eq (EV.methC (R, Pm - 2 ^ a, t - 2 ^ x) (c.own hl) (EV.var rfl) (isI_cnt T R d (by decide +kernel)) (EVA.cons (EV.call (Pm, a) (by walk_at "ev") q4) (EVA.cons (EV.var rfl) EVA.nil)) q1) ?_) EVA.nil)) (by show 2 ≤ 1000; decide)
      show tN _ = tN _
      rw [q2, q3]; rfl
    refine ST.ret (EV.lc ((List.range R.length).filter fun p => decide (p ∈ nums Pm) && decide (x ∈ R.getD p [])) (fun p => tMany p (behind R (nums Pm) (nums t) p x)) (fun p => decide (0 < behind R (nums Pm) (nums t) p x)) (fun p => tMany p (behind R (nums Pm) (nums t) p x)) _ (by walk_at "ev") (fun a _ => GT.two (by decide) (by decide)) (fun W' a ha => EVT.eq (EVT.B (by walk_at "ev")) (gt0 _)) (fun W' a ha _ => EV.tup (EVA.cons (EV.var rfl) (EVA.cons (EV.var rfl) EVA.nil)) (by show 2 ≤ 1000; decide)) ?_)
    have := List.length_filter_le (fun p => decide (p ∈ nums Pm) && decide (x ∈ R.getD p [])) (List.range R.length)
    rw [List.length_range] at this
    omega
abbrev sp_known_in (T : Tp K mg) : Sp := cSp (fun i : List (List Nat) × List (Option Nat) × Nat => i.1) (fun i d => [tCnt T i.1 d, tStand i.2.1, tN i.2.2]) (fun i => RowsOk i.1 ∧ StOk i.1.length i.2.1 ∧ i.2.2 < i.1.length) (fun i => Ty.lst ((known i.1 i.2.1 i.2.2).map tN))
theorem ok_known_in (T : Tp K mg) : FnOk P w K mg base CX0 9 T.known_in.a T.known_in.fd p_known_in (sp_known_in T) :=
  cnt_ok T.known_in.F sc_known_in (fun _ _ => rfl) fun cdv A outer s H E hr => by
    have nd := sc_known_in.nd
    refine ⟨_, (pss_cons (ps_if (pt_cmp (pc_notN (pe_ix ix_tup (pv 1) (pv 2) (fun _ _ => rfl)))) (pss_one (ps_ret (pe_lst (pa_cons (pe_ix ix_tup (pv 1) (pv 2) (fun _ _ => rfl)) pa_nil)))) pss_nil) (pss_cons (ps_asg (pe_call (ok_left_of T) (hr.mono (by first | decide | omega)) rfl T.left_of.m T.left_of.F.kp T.left_of.b .nil pass0 (pa_cons (pv 1) pa_nil)) (pg_tup (by rfl) (pgs_cons (pg_name (i := 3) nd rfl (Or.inl rfl)) (pgs_cons (pg_name (i := 4) nd rfl (Or.inl rfl)) pgs_nil)))) (pss_one (ps_ret (pe_lc (own := [("thing", 5), ("many", 6)]) rfl nd (pi_list (pe_call (ok_opens T) (hr.mono (by first | decide | omega)) rfl T.opens.m T.opens.F.kp T.opens.b .nil pass0 (pa_cons (pv 0) (pa_cons (pv 3) (pa_cons (pv 4) (pa_cons (pv 2) pa_nil)))))) (blkOk_by (own := [("thing", 5), ("many", 6)]) (N := n_known_in) (sc := defScope s_known_in) (by decide +kernel)) (fun _ _ _ _ _ => (pg_tupC (K := K) (n := 2) rfl (by rfl) (pgs_cons (pg_name (i := 5) nd rfl (Or.inl rfl)) (pgs_cons (pg_name (i := 6) nd rfl (Or.inl rfl)) pgs_nil)))) (fun _ _ _ _ _ => pts_nil) (fun _ _ _ _ _ => (pv 5))))))), fun W d i hi c => ?_⟩
    obtain ⟨R, S, p⟩ := i
    obtain ⟨hR, hS, hp⟩ := hi
    have hR : RowsOk R := hR
    have hS : StOk R.length S := hS
    have hp : p < R.length := hp
    have h4 : S.length ≤ 4 := by rw [hS.1]; exact hR.2.1
    have hpS : p < S.length := by rw [hS.1]; exact hp
    have eS : S[p]? = some (S.getD p none) := getD_some hpS
    have gS : ∀ {W : Wd} {G : Ctx}, G[1]? = some (some (tStand S)) → G[2]? = some (some (tN p)) → EV W G (tOp (rIxT K) (tVar 1) (tVar 2)) (tO (S.getD p none)) := fun h1 h2 => EV.ixT (EV.var h1) (EV.var h2) rfl (by rw [List.getElem?_map, eS]; rfl)
    cases q : S.getD p none with
    | some x =>
      rw [q] at gS
      refine ST.if_ (b := true) (EVT.eq (EVT.B (EV.notN (gS rfl rfl))) rfl) (fun _ => ST.retSeq (EV.eq (EV.lst (EVA.cons (gS rfl rfl) EVA.nil) (by show 1 ≤ 1000; decide)) ?_)) (fun h => by cases h)
      show Ty.lst _ = Ty.lst _
      rw [known, q]
      rfl
    | none =>
      rw [q] at gS
      have hk : known R S p = opn R (und S) (unu S) p := by rw [known, q]
      have hm := MkOk.st hR hS
      have hl : (opn R (und S) (unu S) p).length ≤ 4 := by
        have h1 := List.length_filter_le (fun x => decide (x ∈ unu S)) (R.getD p [])
        have h2 := hR.len4 (hR.row hp)
        have h3 := List.length_filter_le (fun x => decide (0 < behind R (und S) (unu S) p x)) ((R.getD p []).filter fun x => decide (x ∈ unu S))
        unfold opn
        omega
      refine ST.if_ (b := false) (EVT.eq (EVT.B (EV.notN (gS rfl rfl))) rfl) (fun h => by cases h) fun _ => ST.skip ?_
      refine ST.asg2 (EV.call S (by walk_at "ev") h4) (ST.ret (EV.eq (EV.lcY (opn R (und S) (unu S) p) (fun x => tMany x (behind R (und S) (unu S) p x)) tN _ (EVI.list (EV.eq (EV.callC (R, mask (und S), mask (unu S), p) c (by walk_at "ev") ⟨hm, ?_⟩) ?_)) (fun a _ => GT.two (by decide) (by decide)) (fun W' a ha => EV.var rfl) (by omega)) ?_))
      · show p ∈ nums (mask (und S))
        rw [(nums_und h4).1]
        exact und_mem.mpr ⟨hpS, q⟩
      · show Ty.lst _ = Ty.lst _
        rw [(nums_und h4).1, (nums_unu h4).1]
      · rw [hk]
theorem known_len {R : List (List Nat)} {S : List (Option Nat)} {p : Nat} (hR : RowsOk R) (hp : p < R.length) : (known R S p).length ≤ 4 := by
  unfold known
  split
  · show 1 ≤ 4; decide
  · have h1 := List.length_filter_le (fun x => decide (x ∈ unu S)) (R.getD p [])
    have h2 := hR.len4 (hR.row hp)
    have h3 := List.length_filter_le (fun x => decide (0 < behind R (und S) (unu S) p x)) ((R.getD p []).filter fun x => decide (x ∈ unu S))
    unfold opn
    omega
theorem enum_rg2 (n : Nat) (f : Nat → Ty) : (((List.range n).map f).zipIdx.map fun p => Ty.tup [tN p.2, p.1]) = (List.range n).map fun i => Ty.tup [tN i, f i] := by
  rw [enum_rg 0, List.length_range]
  refine List.map_congr_left fun i hi => ?_
  have := List.mem_range.mp hi
  rw [List.getD_eq_getElem?_getD, List.getElem?_range this]
  rfl
/-- as cSp, for a new dict that stays hidden -/
def cSpD {ι : Type} (R : ι → List (List Nat)) (args : ι → Addr → List Ty) (ok : ι → Prop) (res : ι → List (Nat × Nat)) : Sp := fun vs H Q _ => ∃ (i : ι) (W : Wd) (d : Addr), ok i ∧ HasCnt W d (R i) ∧ W.ok H ∧ Al (W.v H) (args i d) vs ∧
  ∀ D H', D ∉ W.M → (W.own D (.dK (kvN (res i))) trivial).ok H' → Xt (W.v H) ((W.own D (.dK (kvN (res i))) trivial).v H') → Q (.ref D) H'
abbrev sp_settled_in (T : Tp K mg) : Sp := cSpD (fun i : List (List Nat) × List (Option Nat) => i.1) (fun i d => [tCnt T i.1 d, tStand i.2]) (fun i => RowsOk i.1 ∧ StOk i.1.length i.2) (fun i => settled i.1 i.2)
theorem seqA {W : Wd} {G : Ctx} {te : TE} {T : Ty} {u : TS} {σ : L2.St} {H : Hp} {D : Ends} {i : Nat} (h : EV W G te T) (ok : W.ok H) (fr : Fr (W.v H) G σ) (k : ∀ v H', W.st H H' → T.p (W.v H') v → Fr (W.v H') (G.set i (some T)) (σ.set i (some v)) → u D (σ.set i (some v)) H') : tSeq (tAsg te (gName i)) u D σ H := run_asg h ok fr k
theorem eq1 (n : Nat) : decide (nV n = .int 1) = decide (n = 1) := by
  by_cases h : n = 1
  · subst h; rfl
  · rw [decide_eq_false h, decide_eq_false (fun e => h (by injection e with e; omega))]
theorem ok_settled_in (T : Tp K mg) : FnOk P w K mg base CX0 10 T.settled_in.a T.settled_in.fd p_settled_in (sp_settled_in T) := by
    refine T.settled_in.F.ok sc_settled_in (fun vs H Q E h => ?_) (fun cdv A outer s H vs Q E hr h => ?_)
    · obtain ⟨i, W, d, _, _, _, al, _⟩ := h
      rw [← al.len]; rfl
    obtain ⟨i, W, d, hi, c, okW, al, kq⟩ := h
    have nd := sc_settled_in.nd
    refine ⟨_, (pss_cons (ps_setLc (i := 2) (own := [("person", 3)]) rfl nd rfl rfl (sw_true rfl rfl rfl (by decide +kernel)) (pi_range1 (by rfl) T.b_range (pa_cons (pe_callB call_len_seq (by rfl) T.b_len PySem.boot_len (pa_cons (pv 1) pa_nil)) pa_nil)) (blkOk_by (own := [("person", 3)]) (N := n_settled_in) (sc := defScope s_settled_in) (by decide +kernel)) (fun _ _ _ _ _ => (pg_name (i := 3) nd rfl (Or.inl rfl))) (fun _ _ _ _ _ => pts_nil) (fun _ _ _ _ _ => (pe_call (ok_known_in T) (hr.mono (by first | decide | omega)) rfl T.known_in.m T.known_in.F.kp T.known_in.b .nil pass0 (pa_cons (pv 0) (pa_cons (pv 1) (pa_cons (pv 3) pa_nil)))))) (pss_one (ps_ret (pe_dc (own := [("person", 3), ("things", 4)]) rfl nd (pi_enum (by rfl) T.b_enumerate (pa_cons (pv 2) pa_nil)) (blkOk_by (own := [("person", 3), ("things", 4)]) (N := n_settled_in) (sc := defScope s_settled_in) (by decide +kernel)) (fun _ _ _ _ _ => (pg_tupC (K := K) (n := 2) rfl (by rfl) (pgs_cons (pg_name (i := 3) nd rfl (Or.inl rfl)) (pgs_cons (pg_name (i := 4) nd rfl (Or.inl rfl)) pgs_nil)))) (fun _ _ _ _ _ => (pts_one (pt_cmpR op_eq (pe_callB (cr_lenK (K := K) rfl) (by rfl) T.b_len PySem.boot_len (pa_cons (pv 4) pa_nil)) pe_int (nomark _)))) (fun _ _ _ _ _ => (pv 3)) (fun _ _ _ _ _ => (pe_ix (ix_listK (K := K) rfl) (pv 4) pe_int (fun _ _ => rfl))))))), ?_⟩
    have e : vs.length = p_settled_in.length := by rw [← al.len]; rfl
    obtain ⟨R, S⟩ := i
    have fr : Fr (W.v H) [some (tCnt T R d), some (tStand S), none, none, none] (L2.start n_settled_in vs) := by
      unfold L2.start
      rw [e]
      exact Fr.start (n := 3) al
    obtain ⟨hR, hS⟩ := hi
    have hR : RowsOk R := hR
    have hS : StOk R.length S := hS
    have h4 : S.length ≤ 4 := by rw [hS.1]; exact hR.2.1
    refine seqA (EV.lcYW (List.range S.length) tN (fun p => Ty.lst ((known R S p).map tN)) _ (EVI.rng1 (EVA.cons (EV.eq (EV.cb (by walk_at "ev") RC.lenT) (by rw [List.length_map])) EVA.nil) (by omega)) (fun a _ => GT.name (by decide)) (fun D o hD a ha => EV.callC (R, S, a) (c.own hD) (by walk_at "ev") ⟨hR, hS, by have := List.mem_range.mp ha; rw [hS.1] at this; exact this⟩) (by rw [List.length_range]; omega)) okW fr fun v1 H1 s1 p1 fr1 => ?_
    refine EVD.run (EVD.dcW (List.range S.length) (fun p => Ty.tup [tN p, Ty.lst ((known R S p).map tN)]) (fun p => decide ((known R S p).length = 1)) (fun p => p) (fun p => (known R S p).getD 0 0) _ (EVI.eq (EVI.enum (by walk_at "ev")) (enum_rg2 _ _)) (fun a _ => GT.two (by decide) (by decide)) (fun D o hD a ha => ?_) (fun D o hD a ha _ => EV.var rfl) (fun D o hD a ha hf => ?_) (by rw [List.map_id']; exact List.nodup_range) (by rw [List.length_range]; omega)) s1.2 fr1 fun D H' hD ok' x' => kq D H' hD ok' (s1.1.trans x')
    · refine EVT.eq (EVT.B (EV.op (EV.cb (EVA.cons (EV.var rfl) EVA.nil) RC.lenL) (by walk_at "ev") (RV.Eq rfl))) ?_
      rw [List.length_map]
      exact eq1 _
    · have e1 := of_decide_eq_true hf
      exact EV.ixL (j := 0) (EV.var rfl) EV.cst rfl (by rw [List.getElem?_map, getD_some (p := 0) (z := 0) (by omega)]; rfl)
theorem EVD.withCnt {T : Tp K mg} {ι : Type} {Rr : ι → List (List Nat)} {args : ι → Addr → List Ty} {ok : ι → Prop} {res : ι → List (Nat × Nat)} {W : Wd} {G : Ctx} {E E' : XK} {te : TE} {tr : TA} {R : List (List Nat)} (i : ι) (us : List Ty) (h : EV W G te (tRows R)) (hR : R.length ≤ 4) (ei : R = Rr i)
    (hr : ∀ d, d ∉ W.M → EVA (W.cnt d R) G tr us) (hi : ok i) (e : ∀ d, tCnt T R d :: us = args i d := by intro _; rfl) :
    EVD W G (tCall (cSpD Rr args ok res) [] E (tCons (tMake T.Counter.C (spCnt0 T.Counter.C) [] E' (tCons te tNil)) tr)) (res i) := ⟨fun {σ H Q} okW fr k =>
  h.run okW fr fun v H1 s1 p1 => by
    intro x dx hx hdx hne
    have s2 := s1.2.new (o := .own x) hdx
    have hx2 : upd H1 dx (.own x) x = none := by rw [upd_ne hne.symm]; exact hx
    have ok3 : (W.own x (.ins T.Counter.C dx []) trivial).ok (upd (upd H1 dx (.own x)) x (.ins T.Counter.C dx [])) := s2.2.own hx2
    have v3 : (W.own x (.ins T.Counter.C dx []) trivial).v (upd (upd H1 dx (.own x)) x (.ins T.Counter.C dx [])) = W.v (upd H1 dx (.own x)) := own_v s2.2 hx2
    have hxM := s2.2.nM hx2
    refine ⟨R, W, x, dx, v, hR, hxM, rfl, ok3, by rw [v3]; exact (tRows R).mo s2.1 p1, fun d H' fs hd ok4 x4 r4 => ⟨rfl, ?_⟩⟩
    rw [v3] at x4
    have hdM : d ∉ W.M := fun z => hd (List.mem_cons_of_mem _ z)
    have hdx' : d ≠ x := fun z => hd (by rw [z]; exact List.mem_cons_self)
    have sub : Xt (vis (d :: x :: W.M) H') (vis (d :: W.M) H') := fun a o e => by
      obtain ⟨n, e⟩ := vis_some e
      show vis (d :: W.M) H' a = some o
      rw [vis_eq (fun z => n ((List.mem_cons.mp z).elim (fun z => by rw [z]; exact List.mem_cons_self) fun z => List.mem_cons_of_mem _ (List.mem_cons_of_mem _ z)))]
      exact e
    have ok5 : (W.cnt d R).ok H' := ⟨W.mo ok4.1.1 sub fun _ _ => rfl, ok4.2⟩
    have x5 : Xt (W.v H) ((W.cnt d R).v H') := (s1.1.trans s2.1).trans (x4.trans sub)
    have px : (tCnt T R d).p ((W.cnt d R).v H') (.ref x) := by
      refine ⟨x, dx, fs, rfl, ?_, r4.mo sub⟩
      have := ok4.1.2
      show vis (d :: W.M) H' x = _
      rw [vis_eq (fun z => (List.mem_cons.mp z).elim (fun z => hdx' z.symm) hxM)]
      exact this
    refine (hr d hdM).run ok5 (fr.mo x5) fun vs H6 s6 p6 => ⟨i, W.cnt d R, d, hi, ei ▸ HasCnt.cnt hdM, s6.2, ?_, fun D H7 hD o7 x7 => ?_⟩
    · rw [List.append_nil, ← e d]
      exact ⟨(tCnt T R d).mo s6.1 px, p6⟩
    · have hDM : D ∉ W.M := fun z => hD (List.mem_cons_of_mem _ z)
      have sub2 : Xt (((W.cnt d R).own D (.dK (kvN (res i))) trivial).v H7) ((W.own D (.dK (kvN (res i))) trivial).v H7) := fun a o e => by
        obtain ⟨n, e⟩ := vis_some e
        show vis (D :: W.M) H7 a = some o
        rw [vis_eq (fun z => n ((List.mem_cons.mp z).elim (fun z => by rw [z]; exact List.mem_cons_self) fun z => List.mem_cons_of_mem _ (List.mem_cons_of_mem _ z)))]
        exact e
      exact k D H7 hDM ⟨W.mo o7.1.1 sub2 fun _ _ => rfl, o7.2⟩ (((x5.trans s6.1).trans x7).trans sub2)⟩
end
end Fo
set_option Elab.async false
set_option linter.all false
set_option maxRecDepth 100000
/-! Data of any depth: ==, !=, in. Lists with a hidden address. -/
namespace Fo
open PySem PySem.Spec PyProof.Rows L2
theorem u65 {k : Nat} {A : Around} (r : Room k A) : A.units + 65 < cLine := by have := r.un; omega
/-- values of α as data -/
structure Dm {α : Type} [DecidableEq α] (f : α → PyData) (k : Nat) : Prop where
  lay : ∀ a, (f a).canLay0 = true
  eqv : ∀ a b, PyData.eqv (f a) (f b) = decide (a = b)
  dep : ∀ a, (f a).depth ≤ k
section
variable {α β : Type} [DecidableEq α] [DecidableEq β] {f : α → PyData} {g : β → PyData} {k l : Nat}
def dN (n : Nat) : PyData := .int (n : Int)
def dO : Option Nat → PyData
  | none => .none
  | some n => .int (n : Int)
def dC (c : Bool × Nat) : PyData := .tuple [.str (if c.1 then "person" else "thing"), dN c.2]
theorem int_beq (a b : Nat) : ((a : Int) == (b : Int)) = decide (a = b) := by
  rw [Bool.eq_iff_iff, beq_iff_eq, decide_eq_true_iff]; omega
theorem Dm.N : Dm dN 0 := ⟨fun _ => rfl, fun a b => by show PyData.eqv (.int _) (.int _) = _; simp only [PyData.eqv]; exact int_beq a b, fun _ => Nat.le_refl _⟩
theorem Dm.O : Dm dO 0 := ⟨fun a => by cases a <;> rfl, fun a b => by
  cases a with
  | none => cases b with
    | none => show PyData.eqv .none .none = _; simp only [PyData.eqv]; rfl
    | some b => show PyData.eqv .none (.int _) = _; simp only [PyData.eqv]; rfl
  | some a => cases b with
    | none => show PyData.eqv (.int _) .none = _; simp only [PyData.eqv]; rfl
    | some b =>
      show PyData.eqv (.int _) (.int _) = _
      simp only [PyData.eqv]
      rw [int_beq]
      exact decide_eq_decide.mpr (by rw [Option.some.injEq]), fun a => by cases a <;> exact Nat.le_refl _⟩
theorem Dm.layAll (m : Dm f k) : ∀ L : List α, PyData.canLayAll0 (L.map f) = true
  | [] => rfl
  | a :: L => by rw [List.map_cons, PyData.canLayAll0, m.lay a, Dm.layAll m L]; rfl
theorem Dm.depAll (m : Dm f k) : ∀ L : List α, PyData.depthAll (L.map f) ≤ k
  | [] => Nat.zero_le _
  | a :: L => by rw [List.map_cons, PyData.depthAll]; exact Nat.max_le.mpr ⟨m.dep a, Dm.depAll m L⟩
theorem Dm.eqAll (m : Dm f k) : ∀ xs ys : List α, PyData.eqvAll (xs.map f) (ys.map f) = decide (xs = ys)
  | [], [] => by simp only [List.map_nil, PyData.eqvAll, decide_true]
  | [], _ :: _ => by simp [PyData.eqvAll]
  | _ :: _, [] => by simp [PyData.eqvAll]
  | x :: xs, y :: ys => by
    rw [List.map_cons, List.map_cons, PyData.eqvAll, m.eqv x y, Dm.eqAll m xs ys, ← Bool.decide_and]
    exact decide_eq_decide.mpr (by rw [List.cons.injEq])
theorem Dm.tup (m : Dm f k) : Dm (fun L : List α => .tuple (L.map f)) (k + 1) := ⟨fun L => by rw [PyData.canLay0]; exact m.layAll L, fun L M => by simp only [PyData.eqv]; exact m.eqAll L M, fun L => by rw [PyData.depth]; exact Nat.succ_le_succ (m.depAll L)⟩
theorem Dm.lst (m : Dm f k) : Dm (fun L : List α => .list (L.map f)) (k + 1) := ⟨fun L => by rw [PyData.canLay0]; exact m.layAll L, fun L M => by simp only [PyData.eqv]; exact m.eqAll L M, fun L => by rw [PyData.depth]; exact Nat.succ_le_succ (m.depAll L)⟩
theorem Dm.pair (m : Dm f k) (m' : Dm g l) : Dm (fun p : α × β => .tuple [f p.1, g p.2]) (max k l + 1) := ⟨fun p => by simp only [PyData.canLay0, PyData.canLayAll0, m.lay, m'.lay, Bool.and_self], fun p q => by
    simp only [PyData.eqv, PyData.eqvAll]
    rw [m.eqv, m'.eqv, Bool.and_true, ← Bool.decide_and]
    exact decide_eq_decide.mpr ⟨fun e => Prod.ext e.1 e.2, fun e => by rw [e]; exact ⟨rfl, rfl⟩⟩, fun p => by
    simp only [PyData.depth, PyData.depthAll]
    refine Nat.succ_le_succ (Nat.max_le.mpr ⟨Nat.le_trans (m.dep p.1) (Nat.le_max_left _ _), Nat.max_le.mpr ⟨Nat.le_trans (m'.dep p.2) (Nat.le_max_right _ _), Nat.zero_le _⟩⟩)⟩
theorem Dm.C : Dm dC 1 := ⟨fun c => by
    obtain ⟨b, n⟩ := c
    have h : ∀ b : Bool, PyData.strOk (if b then "person" else "thing") = true := by decide +kernel
    show PyData.canLay0 (.tuple [.str _, .int _]) = true
    simp only [PyData.canLay0, PyData.canLayAll0]
    rw [h]
    rfl, fun c d => by
    obtain ⟨b, n⟩ := c
    obtain ⟨b', n'⟩ := d
    show PyData.eqv (.tuple [.str _, .int _]) (.tuple [.str _, .int _]) = _
    simp only [PyData.eqv, PyData.eqvAll]
    rw [int_beq, Bool.and_true]
    cases b <;> cases b' <;> simp <;> exact fun e => absurd e (by decide +kernel), fun c => by
    show PyData.depth (.tuple [.str _, .int _]) ≤ 1
    simp only [PyData.depth, PyData.depthAll]
    decide⟩
theorem Dm.shaped (m : Dm f k) (hk : k ≤ 64) (a : α) : SeqAt.shaped (f a) = true := by
  unfold SeqAt.shaped
  rw [m.lay a, decide_eq_true (Nat.le_trans (m.dep a) hk)]; rfl
theorem Dm.any (m : Dm f k) (L : List α) (a : α) : ((L.map f).any fun d => PyData.eqv d (f a)) = decide (a ∈ L) := by
  induction L with
  | nil => rfl
  | cons b L ih =>
    rw [List.map_cons, List.any_cons, ih, m.eqv, ← Bool.decide_or]
    exact decide_eq_decide.mpr (by rw [List.mem_cons]; exact ⟨fun h => h.imp_left Eq.symm, fun h => h.imp_left Eq.symm⟩)
end
/-- a T reads as d -/
def IsD (K : PySem.W.Frag) (T : Ty) (d : PyData) : Prop := ∀ H v, T.p H v → Dp K H v d
def IsDs (K : PySem.W.Frag) (ts : List Ty) (ds : List PyData) : Prop := ∀ H vs, Al H ts vs → DpAll K H vs ds
section
variable {K : PySem.W.Frag} {W : Wd} {T U : Ty} {ts us : List Ty} {α : Type}
theorem isD_int {i : Int} : IsD K (tInt i) (.int i) := fun _ _ e => by cases e; exact .int _
theorem isD_N {n : Nat} : IsD K (tN n) (dN n) := isD_int
theorem isD_O {o : Option Nat} : IsD K (tO o) (dO o) := fun _ _ e => by
  cases e
  cases o with
  | none => exact .non
  | some n => exact .int _
theorem isD_S {s : Str} : IsD K (tS s) (.str s) := fun _ _ e => by cases e; exact .str _
theorem isDs_nil : IsDs K [] [] := fun _ vs h => by
  cases vs with
  | nil => exact .nil
  | cons v vs => exact h.elim
theorem isDs_cons {d : PyData} {ds : List PyData} (h : IsD K T d) (h' : IsDs K ts ds) : IsDs K (T :: ts) (d :: ds) := fun H vs al => by
  cases vs with
  | nil => exact al.elim
  | cons v vs => exact .cons (h H v al.1) (h' H vs al.2)
theorem isDs_map {f : α → Ty} {g : α → PyData} : ∀ {L : List α}, (∀ a ∈ L, IsD K (f a) (g a)) → IsDs K (L.map f) (L.map g)
  | [], _ => isDs_nil
  | a :: L, h => isDs_cons (h a List.mem_cons_self) (isDs_map fun b hb => h b (List.mem_cons_of_mem _ hb))
theorem isD_tup {ds : List PyData} (h : IsDs K ts ds) : IsD K (Ty.tup ts) (.tuple ds) := fun H v ⟨a, vs, e, r, al⟩ => by
  subst e
  exact .tup (.inl r) (h H vs al)
theorem isD_lst {ds : List PyData} (h : IsDs K ts ds) : IsD K (Ty.lst ts) (.list ds) := fun H v ⟨a, vs, e, r, al⟩ => by
  subst e
  exact .lst (SqL.of r) (h H vs al)
theorem isD_tupM {f : α → Ty} {g : α → PyData} {L : List α} (h : ∀ a, IsD K (f a) (g a)) : IsD K (Ty.tup (L.map f)) (.tuple (L.map g)) := isD_tup (isDs_map fun a _ => h a)
theorem isD_lstM {f : α → Ty} {g : α → PyData} {L : List α} (h : ∀ a, IsD K (f a) (g a)) : IsD K (Ty.lst (L.map f)) (.list (L.map g)) := isD_lst (isDs_map fun a _ => h a)
theorem RV.eqD [DecidableEq α] {f : α → PyData} {k : Nat} (m : Dm f k) (hk : k ≤ 64) {a b : α} (h1 : IsD K T (f a)) (h2 : IsD K U (f b)) : RV W (rEqD K) T U (tBl (decide (a = b))) := ⟨fun {x y H Q} ok px py k =>
  ⟨f a, f b, h1 _ _ (T.mo (vis_sub _ _) px), h2 _ _ (U.mo (vis_sub _ _) py), m.shaped hk a, m.shaped hk b, by rw [m.eqv]; exact k _ _ ok.st rfl⟩⟩
theorem RV.neD [DecidableEq α] {f : α → PyData} {k : Nat} (m : Dm f k) (hk : k ≤ 64) {a b : α} (h1 : IsD K T (f a)) (h2 : IsD K U (f b)) : RV W (rNeD K) T U (tBl (!decide (a = b))) := ⟨fun {x y H Q} ok px py k =>
  ⟨f a, f b, h1 _ _ (T.mo (vis_sub _ _) px), h2 _ _ (U.mo (vis_sub _ _) py), m.shaped hk a, m.shaped hk b, by rw [m.eqv]; exact k _ _ ok.st rfl⟩⟩
theorem RV.notInD [DecidableEq α] {f : α → PyData} {k : Nat} (m : Dm f k) (hk : k ≤ 63) {a : α} {L : List α} (h1 : IsD K T (f a)) (h2 : IsD K U (.list (L.map f))) : RV W (rNotInD K) T U (tBl (!decide (a ∈ L))) := ⟨fun {x y H Q} ok px py k =>
  ⟨f a, L.map f, h1 _ _ (T.mo (vis_sub _ _) px), h2 _ _ (U.mo (vis_sub _ _) py), m.shaped (by omega) a, m.lst.shaped (by omega) L, by rw [m.any]; exact k _ _ ok.st rfl⟩⟩
end
abbrev dRows (R : List (List Nat)) : PyData := .tuple (R.map fun r => .tuple (r.map dN))
abbrev dStand (S : List (Option Nat)) : PyData := .tuple (S.map dO)
theorem Dm.rows : Dm dRows 2 := Dm.N.tup.tup
theorem Dm.stand : Dm dStand 1 := Dm.O.tup
theorem isD_rows {K : PySem.W.Frag} {R : List (List Nat)} : IsD K (tRows R) (dRows R) := isD_tupM fun _ => isD_tupM fun _ => isD_N
theorem isD_stand {K : PySem.W.Frag} {S : List (Option Nat)} : IsD K (tStand S) (dStand S) := isD_tupM fun _ => isD_O
abbrev tComer (c : Bool × Nat) : Ty := Ty.tup [tS (if c.1 then "person" else "thing"), tN c.2]
theorem isD_comer {K : PySem.W.Frag} {c : Bool × Nat} : IsD K (tComer c) (dC c) := isD_tup (isDs_cons isD_S (isDs_cons isD_N isDs_nil))
/-- a history -/
abbrev tPair (p : Nat × Nat) : Ty := Ty.tup [tN p.1, tN p.2]
abbrev tHist (h : List (Nat × Nat)) : Ty := Ty.tup (h.map tPair)
abbrev dHist (h : List (Nat × Nat)) : PyData := .tuple (h.map fun p => .tuple [dN p.1, dN p.2])
theorem Dm.hist : Dm dHist 2 := (Dm.N.pair Dm.N).tup
theorem isD_hist {K : PySem.W.Frag} {h : List (Nat × Nat)} : IsD K (tHist h) (dHist h) := isD_tupM fun _ => isD_tup (isDs_cons isD_N (isDs_cons isD_N isDs_nil))
end Fo
set_option Elab.async false
set_option linter.all false
set_option maxRecDepth 100000
set_option maxHeartbeats 1000000
namespace Fo
open PySem PySem.Spec PyProof.Rows L2
local macro_rules | `(tactic| walk_at "ev") => `(tactic| first
  | ((with_reducible apply EV.var); rfl)
  | (with_reducible exact EV.cst)
  | (with_reducible exact EVA.nil)
  | (with_reducible exact EVO.none)
  | ((with_reducible apply EVO.some); (· walk_at "ev"))
  | ((with_reducible apply EVA.cons); (· walk_at "ev"); (· walk_at "ev"))
  | ((with_reducible apply EV.op); (· walk_at "ev"); (· walk_at "ev"); (· walk_at "rv"))
  | ((with_reducible apply EV.un); (· walk_at "ev"); (· exact RU.neg))
  | ((with_reducible apply EV.chain); (· walk_at "ev"); (· walk_at "ev"); (· walk_at "rv"); (· walk_at "ev"); (· walk_at "rv"))
  | ((with_reducible apply EV.cb); (· walk_at "ev"); (· walk_at "rv"))
  | ((with_reducible apply EV.bits); (· walk_at "ev"))
  | ((with_reducible apply EV.slT); (· walk_at "ev"); (· walk_at "ev"); (· walk_at "ev"))
  | ((with_reducible apply EV.isN); (· walk_at "ev"))
  | ((with_reducible apply EV.notN); (· walk_at "ev"))
  | ((with_reducible apply EV.notV); (· walk_at "ev"))
  | ((with_reducible apply EV.andV); (· walk_at "ev"); (· intro _; walk_at "ev"))
  | ((with_reducible apply EVT.test); (· walk_at "ev"))
  | ((with_reducible apply EVT.B); (· walk_at "ev"))
  | ((with_reducible apply EVT.not); (· walk_at "ev"))
  | ((with_reducible apply EV.tup); (· walk_at "ev"); (· decide))
  | ((with_reducible apply EV.lst); (· walk_at "ev"); (· decide))
  | ((with_reducible apply EVI.list); (· walk_at "ev"))
  | ((with_reducible apply EVI.tup); (· walk_at "ev"))
  | ((with_reducible apply EVI.enum); (· walk_at "ev"))
  | ((with_reducible apply EVI.enumT); (· walk_at "ev"))
  | ((with_reducible apply EVI.zipT); (· walk_at "ev"); (· walk_at "ev")))
local macro_rules | `(tactic| walk_at "rv") => `(tactic| first
  | exact RV.I0
  | exact RV.oneShl (by decide)
  | exact RV.shrN
  | exact RV.odd
  | exact RC.isi_ii
  | exact RC.isi_ib
  | exact RC.isi_tt
  | exact RC.isi_ss
  | exact RC.lenT
  | exact RC.lenL
  | exact RC.sumF
  | exact RC.allF
  | exact RV.inTN
  | exact RV.inLN
  | exact RV.inTO
  | exact RC.tupOf
  | exact RC.lstOfT
  | exact RC.lstOfL
  | exact RC.int
  | exact RC.intB
  | exact RC.abs
  | exact RV.Eq rfl
  | exact RV.Ne rfl)
/-! ## comers; == of tables -/
def waiting (S : List (Option Nat)) : List (Bool × Nat) := (und S).map (fun p => (true, p)) ++ (unu S).map fun x => (false, x)
def pairOf (c : Bool × Nat) (k : Nat) : Nat × Nat := if c.1 then (c.2, k) else (k, c.2)
section
variable {P : Program} {w : World} {K : PySem.W.Frag} {mg : Str → Option Value} {base : Heap}
theorem EV.who {W : Wd} {G : Ctx} {i : Nat} {c : Bool × Nat} (h : G[i]? = some (some (tComer c))) : EV W G (tOp (rIxT K) (tVar i) (tC (.int 0))) (tS (if c.1 then "person" else "thing")) := EV.ixT (j := 0) (EV.var h) EV.cst rfl rfl
theorem EV.num {W : Wd} {G : Ctx} {i : Nat} {c : Bool × Nat} (h : G[i]? = some (some (tComer c))) : EV W G (tOp (rIxT K) (tVar i) (tC (.int 1))) (tN c.2) := EV.ixT (j := 1) (EV.var h) EV.cst rfl rfl
theorem whoP : ∀ b : Bool, decide (V.str (if b then "person" else "thing") = V.str "person") = b := by decide +kernel
theorem whoT : ∀ b : Bool, decide (V.str (if b then "person" else "thing") = V.str "thing") = !b := by decide +kernel
theorem EVT.isP {W : Wd} {G : Ctx} {i : Nat} {c : Bool × Nat} (h : G[i]? = some (some (tComer c))) : EVT W G (tB (tOp rEq (tOp (rIxT K) (tVar i) (tC (.int 0))) (tC (.str "person")))) c.1 := EVT.eq (EVT.B (EV.op (EV.who h) EV.cst (RV.Eq rfl))) (whoP c.1)
theorem ok_drawn_by (T : Tp K mg) : FnOk P w K mg base CX0 2 T.drawn_by.a T.drawn_by.fd p_drawn_by (pSp (fun i : List (Option Nat) × (Bool × Nat) × Nat => [tStand i.1, tComer i.2.1, tN i.2.2]) (fun i => i.1.length ≤ 4 ∧ (pairOf i.2.1 i.2.2).1 < i.1.length) (fun i => tStand (i.1.set (pairOf i.2.1 i.2.2).1 (some (pairOf i.2.1 i.2.2).2)))) :=
  pure_ok T.drawn_by.F sc_drawn_by (fun _ => rfl) fun cdv A outer s H E hr => by
    have nd := sc_drawn_by.nd
    refine ⟨_, (pss_cons (ps_if (pt_cmpR op_eq (pe_ix ix_tup (pv 1) pe_int (fun _ _ => rfl)) pe_str (nomark _)) (pss_one (ps_ret (pe_call (ok_after_draw T) (hr.mono (by first | decide | omega)) rfl T.after_draw.m T.after_draw.F.kp T.after_draw.b .nil pass0 (pa_cons (pv 0) (pa_cons (pe_ix ix_tup (pv 1) pe_int (fun _ _ => rfl)) (pa_cons (pv 2) pa_nil)))))) pss_nil) (pss_one (ps_ret (pe_call (ok_after_draw T) (hr.mono (by first | decide | omega)) rfl T.after_draw.m T.after_draw.F.kp T.after_draw.b .nil pass0 (pa_cons (pv 0) (pa_cons (pv 2) (pa_cons (pe_ix ix_tup (pv 1) pe_int (fun _ _ => rfl)) pa_nil))))))), fun W i hi => ?_⟩
    obtain ⟨S, ⟨b, n⟩, k⟩ := i
    obtain ⟨h1, h2⟩ := hi
    have h1 : S.length ≤ 4 := h1
    refine ST.if_ (EVT.isP (c := (b, n)) rfl) (fun h => ?_) (fun h => ?_)
    · have h : b = true := h
      subst h
      exact ST.retSeq (EV.call (S, n, k) (EVA.cons (EV.var rfl) (EVA.cons (EV.num (c := (true, n)) rfl) (EVA.cons (EV.var rfl) EVA.nil))) ⟨h1, h2⟩)
    · have h : b = false := h
      subst h
      exact ST.skip (ST.ret (EV.call (S, k, n) (EVA.cons (EV.var rfl) (EVA.cons (EV.var rfl) (EVA.cons (EV.num (c := (false, n)) rfl) EVA.nil))) ⟨h1, h2⟩))
theorem ok_nothing_drawn (T : Tp K mg) : FnOk P w K mg base CX0 1 T.nothing_drawn.a T.nothing_drawn.fd p_nothing_drawn (pSp (fun R : List (List Nat) => [tTab T R]) (fun R => RowsOk R) (fun R => tStand (List.replicate R.length none))) :=
  pure_ok T.nothing_drawn.F sc_nothing_drawn (fun _ => rfl) fun cdv A outer s H E hr => by
    have nd := sc_nothing_drawn.nd
    refine ⟨_, (pss_one (ps_ret (pe_op (OpR.or op_repT op_rep1) (pe_tup (pa_cons pe_non pa_nil)) (pe_fld (pv 0) rfl)))), fun W R hi => ?_⟩
    have hi : RowsOk R := hi
    refine ST.ret (EV.eq (EV.op (EV.tup (EVA.cons EV.cst EVA.nil) (by show 1 ≤ 1000; decide)) (EV.fld (EV.var rfl) (has_size T R)) (RV.repN hi.1 (Nat.le_trans hi.2.1 (by decide)))) ?_)
    show Ty.tup _ = Ty.tup _
    rw [List.map_replicate]
    rfl
theorem ok_waiting_comers (T : Tp K mg) : FnOk P w K mg base CX0 1 T.waiting_comers.a T.waiting_comers.fd p_waiting_comers (pSp (fun S : List (Option Nat) => [tStand S]) (fun S => S.length ≤ 4) (fun S => Ty.lst ((waiting S).map tComer))) :=
  pure_ok T.waiting_comers.F sc_waiting_comers (fun _ => rfl) fun cdv A outer s H E hr => by
    have nd := sc_waiting_comers.nd
    refine ⟨_, (pss_cons (ps_setLc (i := 1) (own := [("person", 2), ("got", 3)]) rfl nd rfl rfl (sw_true rfl rfl rfl (by decide +kernel)) (pi_enumT (by rfl) T.b_enumerate (pa_cons (pv 0) pa_nil)) (blkOk_by (own := [("person", 2), ("got", 3)]) (N := n_waiting_comers) (sc := defScope s_waiting_comers) (by decide +kernel)) (fun _ _ _ _ _ => (pg_tupC (K := K) (n := 2) rfl (by rfl) (pgs_cons (pg_name (i := 2) nd rfl (Or.inl rfl)) (pgs_cons (pg_name (i := 3) nd rfl (Or.inl rfl)) pgs_nil)))) (fun _ _ _ _ _ => (pts_one (pt_cmp (pc_isN (pv 3))))) (fun _ _ _ _ _ => (pe_tup (pa_cons pe_str (pa_cons (pv 2) pa_nil))))) (pss_one (ps_ret (pe_op op_cat (pv 1) (pe_lc (own := [("thing", 4)]) rfl nd (pi_range1 (by rfl) T.b_range (pa_cons (pe_callB call_len_seq (by rfl) T.b_len PySem.boot_len (pa_cons (pv 0) pa_nil)) pa_nil)) (blkOk_by (own := [("thing", 4)]) (N := n_waiting_comers) (sc := defScope s_waiting_comers) (by decide +kernel)) (fun _ _ _ _ _ => (pg_name (i := 4) nd rfl (Or.inl rfl))) (fun _ _ _ _ _ => (pts_one (pt_cmpR (op_notInK (K := K) rfl) (pv 4) (pv 0) rfl))) (fun _ _ _ _ _ => (pe_tup (pa_cons pe_str (pa_cons (pv 4) pa_nil))))))))), fun W S hS => ?_⟩
    have hS : S.length ≤ 4 := hS
    have l1 : (und S).length ≤ 4 := by
      have := List.length_filter_le (fun i => decide (S.getD i none = none)) (List.range S.length)
      rw [List.length_range] at this
      unfold und
      omega
    have l2 : (unu S).length ≤ 4 := by
      have := List.length_filter_le (fun x => !decide (some x ∈ S)) (List.range S.length)
      rw [List.length_range] at this
      unfold unu
      omega
    refine ST.asg (EV.lc (List.range S.length) (fun i => Ty.tup [tN i, tO (S.getD i none)]) (fun i => decide (S.getD i none = none)) (fun p => tComer (true, p)) _ (EVI.eq (EVI.enumT (by walk_at "ev")) (enum_rg none S tO)) (fun a _ => GT.two (by decide) (by decide)) (fun W' a ha => ?_) (fun W' a ha _ => EV.tup (EVA.cons EV.cst (EVA.cons (EV.var rfl) EVA.nil)) (by show 2 ≤ 1000; decide)) (by rw [List.length_range]; omega)) ?_
    · refine EVT.eq (EVT.B (EV.isN (EV.var rfl))) ?_
      cases S.getD a none with
      | none => rfl
      | some k => rfl
    refine ST.ret (EV.eq (EV.op (EV.var rfl) (EV.lc (List.range S.length) tN (fun x => !decide (some x ∈ S)) (fun x => tComer (false, x)) _ (EVI.rng1 (EVA.cons (EV.eq (EV.cb (by walk_at "ev") RC.lenT) (by rw [List.length_map])) EVA.nil) (by omega)) (fun a _ => GT.name (by decide)) (fun W' a ha => EVT.B (EV.op (EV.var rfl) (EV.var rfl) RV.inTO)) (fun W' a ha _ => EV.tup (EVA.cons EV.cst (EVA.cons (EV.var rfl) EVA.nil)) (by show 2 ≤ 1000; decide)) (by rw [List.length_range]; omega)) (RV.cat ?_)) ?_)
    · rw [List.length_map, List.length_map]
      show (und S).length + (unu S).length ≤ 1000
      omega
    · show Ty.lst _ = Ty.lst _
      unfold waiting
      rw [List.map_append, List.map_map, List.map_map]
      rfl
/-- isinstance(x, Table), for a table x -/
theorem RC.isiTab {W : Wd} (T : Tp K mg) (R : List (List Nat)) : RC W (rIsi K) [tTab T R, Ty.is (.ref T.Table.C)] (tBl true) := ⟨fun {vs H Q} ok al k => by
  obtain ⟨v, c, rfl, p, e⟩ := al2 al
  cases e
  have p := (tTab T R).mo (vis_sub _ _) p
  rcases p with ⟨a, dx, fs, rfl, e, _⟩ | ⟨a, dx, fs, rfl, e, _⟩
  · exact ⟨.ref a, _, .ref T.Table.C, .ref T.Table.C, true, rfl, .own _, .base (.ins e T.Table.cl T.ha_Table T.hn T.htk T.hm_Table), T.ko_Table, k _ _ ok.st rfl⟩
  · exact ⟨.ref a, _, .ref T.RawTable.C, .ref T.Table.C, true, rfl, .own _, .base (.ins e T.RawTable.cl T.ha_RawTable T.hn T.htk T.hm_RawTable), T.ko_RawTable, k _ _ ok.st rfl⟩⟩
abbrev sp_teq (T : Tp K mg) : Sp := pSp (fun i : List (List Nat) × List (List Nat) => [tTab T i.1, tTab T i.2]) (fun _ => True) (fun i => tBl (decide (i.1 = i.2)))
theorem ok_teq (D : Df K "__eq__" "Table.__eq__" s_Table_eq p_Table_eq) (T : Tp K mg) : FnOk P w K mg base CX0 1 D.a D.fd p_Table_eq (sp_teq T) :=
  pure_ok D.F sc_Table_eq (fun _ => rfl) fun cdv A outer s H E hr => by
    have nd := sc_Table_eq.nd
    refine ⟨_, (pss_one (ps_ret (pe_and (pe_callB call_isi (by rfl) T.b_isinstance (by decide +kernel) (pa_cons (pv 1) (pa_cons (pe_glob (v := .ref T.Table.C) rfl T.Table.m rfl) pa_nil))) (pe_one (pe_cmpR (op_eqD hr.units) (pe_fld (pv 0) rfl) (pe_fld (pv 1) rfl) (nomark _)))))), fun W i hi => ?_⟩
    obtain ⟨R, R'⟩ := i
    exact ST.retTo (EV.andV (EV.cb (EVA.cons (EV.var rfl) (EVA.cons EV.cst EVA.nil)) (RC.isiTab T R')) fun _ => EV.op (EV.fld (EV.var rfl) (has_rows T R)) (EV.fld (EV.var rfl) (has_rows T R')) (RV.eqD Dm.rows (by decide) isD_rows isD_rows)) rfl
end
end Fo
set_option Elab.async false
set_option linter.all false
set_option maxRecDepth 100000
/-! Cells: hidden things that change; lenses; the draw and the law's state. -/
namespace Fo
open PySem PySem.Spec PyProof.Rows L2
/-- one hidden cell more: the addresses A, of which C holds -/
structure Cl (A : List Addr) (C : Hp → Hp → Prop) : Prop where
  al : ∀ {h H a}, C h H → a ∈ A → ∃ o, H a = some o
  mo : ∀ {h h' H H'}, C h H → Xt h h' → (∀ a ∈ A, H' a = H a) → C h' H'
def Wd.cell (W : Wd) (A : List Addr) (C : Hp → Hp → Prop) (c : Cl A C) : Wd where
  M := A ++ W.M
  Φ := fun h H => W.Φ h H ∧ C h H
  al := fun {h H a} hh ha => by
    rcases List.mem_append.mp ha with ha | ha
    · obtain ⟨o, e⟩ := c.al hh.2 ha
      exact ⟨o, e, trivial⟩
    · exact W.al hh.1 ha
  mo := fun {h h' H H'} hh x k => ⟨W.mo hh.1 x fun a ha => k a (List.mem_append_right _ ha), c.mo hh.2 x fun a ha => k a (List.mem_append_left _ ha)⟩
structure Lens {S : Type} (F : S → Wd) (A : List Addr) (C : S → Hp → Hp → Prop) : Prop where
  M : ∀ s s', (F s).M = (F s').M
  mem : ∀ s, ∀ x ∈ A, x ∈ (F s).M
  get : ∀ s {h H}, (F s).Φ h H → C s h H
  put : ∀ s s' {h H H'}, (F s).Φ h H → (∀ x, x ∉ A → H' x = H x) → C s' h H' → (F s').Φ h H'
section
variable {S : Type} {F : S → Wd} {A B : List Addr} {C : S → Hp → Hp → Prop} {s s' : S} {H H' : Hp}
theorem vis_agree {M : List Addr} (h : ∀ x, x ∉ M → H' x = H x) : vis M H' = vis M H := by
  funext a
  by_cases ha : a ∈ M
  · rw [vis_in ha, vis_in ha]
  · rw [vis_eq ha, vis_eq ha, h a ha]
/-- the cell is written -/
theorem Lens.write (L : Lens F A C) (ok : (F s).ok H) (h : ∀ x, x ∉ A → H' x = H x) (c : C s' ((F s).v H) H') : (F s').ok H' ∧ (F s').v H' = (F s).v H := by
  have e1 : vis (F s).M H' = vis (F s).M H := vis_agree fun x hx => h x fun z => hx (L.mem s x z)
  have e : (F s').v H' = (F s).v H := by rw [Wd.v, L.M s' s, e1]
  refine ⟨?_, e⟩
  show (F s').Φ ((F s').v H') H'
  rw [e]
  exact L.put s s' ok h c
theorem Lens.at (L : Lens F A C) (ok : (F s).ok H) : C s ((F s).v H) H := L.get s ok
theorem Lens.own {D : Addr} {o : HO} (L : Lens F A C) (hD : D ∉ (F s).M) : Lens (fun s => (F s).own D o trivial) A C where
  M := fun a b => by show D :: (F a).M = D :: (F b).M; rw [L.M a b]
  mem := fun a x hx => List.mem_cons_of_mem _ (L.mem a x hx)
  get := fun a {h H} hh => L.get a hh.1
  put := fun a b {h H H'} hh k c => ⟨L.put a b hh.1 k c, by rw [k D fun z => hD (L.mem s D z)]; exact hh.2⟩
theorem Lens.cell {D : Hp → Hp → Prop} {c : Cl B D} (L : Lens F A C) (hB : ∀ x ∈ B, x ∉ (F s).M) : Lens (fun s => (F s).cell B D c) A C where
  M := fun a b => by show B ++ (F a).M = B ++ (F b).M; rw [L.M a b]
  mem := fun a x hx => List.mem_append_right _ (L.mem a x hx)
  get := fun a {h H} hh => L.get a hh.1
  put := fun a b {h H H'} hh k cc => ⟨L.put a b hh.1 k cc, c.mo hh.2 (Xt.refl _) fun x hx => k x fun z => hB x hx (L.mem s x z)⟩
theorem Lens.top {W : Wd} (c : ∀ s, Cl A (C s)) (hA : ∀ x ∈ A, x ∉ W.M) : Lens (fun s => W.cell A (C s) (c s)) A C where
  M := fun _ _ => rfl
  mem := fun _ x hx => List.mem_append_left _ hx
  get := fun _ {h H} hh => hh.2
  put := fun a b {h H H'} hh k cc => ⟨W.mo hh.1 (Xt.refl _) fun x hx => k x fun z => hA x z hx, cc⟩
end
/-- a cell is there, to be read -/
structure Has (W : Wd) (A : List Addr) (C : Hp → Hp → Prop) : Prop where
  mem : ∀ x ∈ A, x ∈ W.M
  get : ∀ {h H}, W.Φ h H → C h H
theorem Lens.has {S : Type} {F : S → Wd} {A : List Addr} {C : S → Hp → Hp → Prop} {s : S} (L : Lens F A C) : Has (F s) A (C s) := ⟨L.mem s, L.get s⟩
theorem Has.own {W : Wd} {A : List Addr} {C : Hp → Hp → Prop} {D : Addr} {o : HO} (c : Has W A C) : Has (W.own D o trivial) A C := ⟨fun x hx => List.mem_cons_of_mem _ (c.mem x hx), fun h => c.get h.1⟩
theorem Has.cnt {W : Wd} {A : List Addr} {C : Hp → Hp → Prop} {d : Addr} {R : List (List Nat)} (c : Has W A C) : Has (W.cnt d R) A C := ⟨fun x hx => List.mem_cons_of_mem _ (c.mem x hx), fun h => c.get h.1⟩
theorem Has.cell {W : Wd} {A B : List Addr} {C D : Hp → Hp → Prop} {cl : Cl B D} (c : Has W A C) : Has (W.cell B D cl) A C := ⟨fun x hx => List.mem_append_right _ (c.mem x hx), fun h => c.get h.1⟩
theorem Has.at {W : Wd} {A : List Addr} {C : Hp → Hp → Prop} {H : Hp} (c : Has W A C) (ok : W.ok H) : C (W.v H) H := c.get ok
/-! ## promises that lean on what is there -/
def gSp {ι : Type} (hs : ι → Wd → Prop) (args : ι → List Ty) (res : ι → Ty) : Sp := fun vs H Q _ => ∃ (i : ι) (W : Wd), hs i W ∧ W.ok H ∧ Al (W.v H) (args i) vs ∧ ∀ v H', W.st H H' → (res i).p (W.v H') v → Q v H'
theorem EV.callG {ι : Type} {hs : ι → Wd → Prop} {args : ι → List Ty} {res : ι → Ty} {W : Wd} {G : Ctx} {E : XK} {ta : TA} {ts : List Ty} (i : ι) (c : hs i W) (h : EVA W G ta ts) (e : ts = args i := by rfl) :
    EV W G (tCall (gSp hs args res) [] E ta) (res i) := ⟨fun okW fr k =>
  h.run okW fr fun vs H1 s1 p1 => by
    subst e
    exact ⟨i, W, c, s1.2, by rw [List.append_nil]; exact p1, fun v H' s p => k v H' (s1.trans s) p⟩⟩
/-- an instance that is hidden: o.m(..) -/
theorem EV.methG {ι : Type} {hs : ι → Wd → Prop} {args : ι → List Ty} {res : ι → Ty} {W : Wd} {G : Ctx} {C a : Addr} {m : Str} {E : XK} {to : TE} {ta : TA} {ts : List Ty} (i : ι) (c : hs i W) (ho : EV W G to (Ty.is (.ref a))) (hI : ∀ H, W.ok H → ∃ dx fs, H a = some (.ins C dx fs) ∧ fs.lookup m = none)
    (h : EVA W G ta ts) (e : Ty.is (.ref a) :: ts = args i := by rfl) : EV W G (tMeth C m (gSp hs args res) [] E to ta) (res i) := ⟨fun okW fr k =>
  ho.run okW fr fun v H0 s0 p0 => by
    cases p0
    obtain ⟨dx, fs, ha, hl⟩ := hI _ s0.2
    refine ⟨a, dx, fs, rfl, ha, hl, ?_⟩
    refine h.run s0.2 (fr.mo s0.1) fun vs H1 s1 p1 => ⟨i, W, c, s1.2, ?_, fun v H' s p => k v H' ((s0.trans s1).trans s) p⟩
    rw [← e, List.append_nil]
    exact ⟨rfl, p1⟩⟩
/-- .. that give a new list, a new dict, hidden -/
def hSpL {ι : Type} (hs : ι → Wd → Prop) (args : ι → List Ty) (res : ι → List Ty) : Sp := fun vs H Q _ => ∃ (i : ι) (W : Wd), hs i W ∧ W.ok H ∧ Al (W.v H) (args i) vs ∧
  ∀ D acc H', D ∉ W.M → (W.own D (.lst acc) trivial).ok H' → Xt (W.v H) ((W.own D (.lst acc) trivial).v H') → Al ((W.own D (.lst acc) trivial).v H') (res i) acc → Q (.ref D) H'
def hSpD {ι : Type} (hs : ι → Wd → Prop) (args : ι → List Ty) (res : ι → List (Nat × Nat)) : Sp := fun vs H Q _ => ∃ (i : ι) (W : Wd), hs i W ∧ W.ok H ∧ Al (W.v H) (args i) vs ∧
  ∀ D H', D ∉ W.M → (W.own D (.dK (kvN (res i))) trivial).ok H' → Xt (W.v H) ((W.own D (.dK (kvN (res i))) trivial).v H') → Q (.ref D) H'
theorem EVN.methG {ι : Type} {hs : ι → Wd → Prop} {args : ι → List Ty} {res : ι → List Ty} {W : Wd} {G : Ctx} {C a : Addr} {m : Str} {E : XK} {to : TE} {ta : TA} {ts : List Ty} (i : ι) (c : hs i W) (ho : EV W G to (Ty.is (.ref a))) (hI : ∀ H, W.ok H → ∃ dx fs, H a = some (.ins C dx fs) ∧ fs.lookup m = none)
    (h : EVA W G ta ts) (e : Ty.is (.ref a) :: ts = args i := by rfl) : EVN W G (tMeth C m (hSpL hs args res) [] E to ta) (res i) := ⟨fun okW fr k =>
  ho.run okW fr fun v H0 s0 p0 => by
    cases p0
    obtain ⟨dx, fs, ha, hl⟩ := hI _ s0.2
    refine ⟨a, dx, fs, rfl, ha, hl, ?_⟩
    refine h.run s0.2 (fr.mo s0.1) fun vs H1 s1 p1 => ⟨i, W, c, s1.2, ?_, fun D acc H' hD o x al => k D acc H' hD o ((s0.trans s1).1.trans x) al⟩
    rw [← e, List.append_nil]
    exact ⟨rfl, p1⟩⟩
theorem EVD.methG {ι : Type} {hs : ι → Wd → Prop} {args : ι → List Ty} {res : ι → List (Nat × Nat)} {W : Wd} {G : Ctx} {C a : Addr} {m : Str} {E : XK} {to : TE} {ta : TA} {ts : List Ty} (i : ι) (c : hs i W) (ho : EV W G to (Ty.is (.ref a))) (hI : ∀ H, W.ok H → ∃ dx fs, H a = some (.ins C dx fs) ∧ fs.lookup m = none)
    (h : EVA W G ta ts) (e : Ty.is (.ref a) :: ts = args i := by rfl) : EVD W G (tMeth C m (hSpD hs args res) [] E to ta) (res i) := ⟨fun okW fr k =>
  ho.run okW fr fun v H0 s0 p0 => by
    cases p0
    obtain ⟨dx, fs, ha, hl⟩ := hI _ s0.2
    refine ⟨a, dx, fs, rfl, ha, hl, ?_⟩
    refine h.run s0.2 (fr.mo s0.1) fun vs H1 s1 p1 => ⟨i, W, c, s1.2, ?_, fun D H' hD o x => k D H' hD o ((s0.trans s1).1.trans x)⟩
    rw [← e, List.append_nil]
    exact ⟨rfl, p1⟩⟩
theorem run_meth {W : Wd} {G : Ctx} {sp : Sp} {C a : Addr} {m : Str} {E : XK} {to : TE} {ta : TA} {ts : List Ty} {σ : L2.St} {H : Hp} {Q : VK} (ok : W.ok H) (fr : Fr (W.v H) G σ) (ho : EV W G to (Ty.is (.ref a))) (hI : ∀ H, W.ok H → ∃ dx fs, H a = some (.ins C dx fs) ∧ fs.lookup m = none)
    (h : EVA W G ta ts) (k : ∀ vs H', W.st H H' → Al (W.v H') ts vs → sp (.ref a :: vs) H' Q E) : tMeth C m sp [] E to ta σ H Q :=
  ho.run ok fr fun v H0 s0 p0 => by
    cases p0
    obtain ⟨dx, fs, ha, hl⟩ := hI _ s0.2
    refine ⟨a, dx, fs, rfl, ha, hl, ?_⟩
    refine h.run s0.2 (fr.mo s0.1) fun vs H1 s1 p1 => ?_
    rw [List.append_nil]
    exact k vs H1 (s0.trans s1) p1
section
variable {W : Wd} {G : Ctx} {te : TE} {T T1 T2 T3 : Ty} {t u v : TS} {tt : TT} {σ : L2.St} {H : Hp} {D : Ends} {b : Bool}
theorem run_asg3 {K : PySem.W.Frag} {i j l : Nat} (h : EV W G te (Ty.tup [T1, T2, T3])) (ok : W.ok H) (fr : Fr (W.v H) G σ) (k : ∀ σ' H', W.st H H' → Fr (W.v H') (((G.set i (some T1)).set j (some T2)).set l (some T3)) σ' → u D σ' H') :
    tSeq (tAsg te (gTup K 3 (gCons (gName i) (gCons (gName j) (gCons (gName l) gNil))))) u D σ H :=
  h.run ok fr fun v H1 s1 p => by
    obtain ⟨a, vs, rfl, e, al⟩ := p
    match vs, al with
    | [x, y, z], al => exact ⟨a, [x, y, z], rfl, .inl (rd_vis e), rfl, x, [y, z], rfl, y, [z], rfl, z, [], rfl, rfl, k _ H1 s1 ((((fr.mo s1.1).set al.1 i).set al.2.1 j).set al.2.2.1 l)⟩
theorem run_asg2 {K : PySem.W.Frag} {i j : Nat} (h : EV W G te (Ty.tup [T1, T2])) (ok : W.ok H) (fr : Fr (W.v H) G σ) (k : ∀ σ' H', W.st H H' → Fr (W.v H') ((G.set i (some T1)).set j (some T2)) σ' → u D σ' H') :
    tSeq (tAsg te (gTup K 2 (gCons (gName i) (gCons (gName j) gNil)))) u D σ H :=
  h.run ok fr fun v H1 s1 p => by
    obtain ⟨a, vs, rfl, e, al⟩ := p
    match vs, al with
    | [x, y], al => exact ⟨a, [x, y], rfl, .inl (rd_vis e), rfl, x, [y], rfl, y, [], rfl, rfl, k _ H1 s1 (((fr.mo s1.1).set al.1 i).set al.2.1 j)⟩
theorem run_drop (h : EV W G te T) (ok : W.ok H) (fr : Fr (W.v H) G σ) (k : ∀ H', W.st H H' → Fr (W.v H') G σ → u D σ H') : tSeq (tDrop te) u D σ H :=
  h.run ok fr fun v H1 s1 _ => k H1 s1 (fr.mo s1.1)
theorem run_ifb (h : EVT W G tt b) (ok : W.ok H) (fr : Fr (W.v H) G σ) (h1 : b = true → ∀ H', W.st H H' → Fr (W.v H') G σ → tSeq t u D σ H') (h2 : b = false → ∀ H', W.st H H' → Fr (W.v H') G σ → tSeq v u D σ H') : tSeq (tIfS tt t v) u D σ H :=
  h.run ok fr fun H1 s1 => by
    cases b with
    | true => exact h1 rfl H1 s1 (fr.mo s1.1)
    | false => exact h2 rfl H1 s1 (fr.mo s1.1)
theorem run_if1b (h : EVT W G tt b) (ok : W.ok H) (fr : Fr (W.v H) G σ) (h1 : b = true → ∀ H', W.st H H' → Fr (W.v H') G σ → t D σ H') (h2 : b = false → ∀ H', W.st H H' → Fr (W.v H') G σ → v D σ H') : tIfS tt t v D σ H :=
  h.run ok fr fun H1 s1 => by
    cases b with
    | true => exact h1 rfl H1 s1 (fr.mo s1.1)
    | false => exact h2 rfl H1 s1 (fr.mo s1.1)
theorem run_asgQ {i : Nat} (k : te σ H fun v H' => u D (σ.set i (some v)) H') : tSeq (tAsg te (gName i)) u D σ H := k
theorem run_asg1Q {i : Nat} (k : te σ H fun v H' => D.nx (σ.set i (some v)) H') : tAsg te (gName i) D σ H := k
theorem run_lstQ {ta : TA} {Q : VK} (k : ta σ H fun xs H1 => xs.length ≤ sizeLine ∧ ∀ p, H1 p = none → Q (.ref p) (upd H1 p (.lst xs))) : tLst ta σ H Q := k
theorem run_dnewQ {Q : VK} (k : ∀ p, H p = none → Q (.ref p) (upd H p (.dK []))) : tDNewK σ H Q := k
theorem run_cbQ {r : List V → Hp → VK → Prop} {ta : TA} {Q : VK} (k : ta σ H fun vs H1 => r vs H1 Q) : tCB r ta σ H Q := k
theorem run_dropQ (k : te σ H fun _ H' => D.nx σ H') : tDrop te D σ H := k
theorem run_bm {K : PySem.W.Frag} {Tn : String} {r : V → List V → Hp → VK → Prop} {to : TE} {ta : TA} {Q : VK} {l : Addr} (h : EV W G to (Ty.is (.ref l))) (ok : W.ok H) (fr : Fr (W.v H) G σ) (k : ∀ H', W.st H H' → Fr (W.v H') G σ → tyV K Tn (.ref l) H' ∧ ta σ H' fun xs H2 => r (.ref l) xs H2 Q) : tBM K Tn r to ta σ H Q :=
  h.run ok fr fun v H' s p => by cases p; exact k H' s (fr.mo s.1)
theorem run_bm0 {K : PySem.W.Frag} {Tn : String} {r : V → List V → Hp → VK → Prop} {to : TE} {Q : VK} {l : Addr} (h : EV W G to (Ty.is (.ref l))) (ok : W.ok H) (fr : Fr (W.v H) G σ) (k : ∀ H', W.st H H' → Fr (W.v H') G σ → tyV K Tn (.ref l) H' ∧ r (.ref l) [] H' Q) : tBM0 K Tn r to σ H Q :=
  h.run ok fr fun v H' s p => by cases p; exact k H' s (fr.mo s.1)
theorem run_ev {Q : VK} (h : EV W G te T) (ok : W.ok H) (fr : Fr (W.v H) G σ) (k : ∀ v H', W.st H H' → T.p (W.v H') v → Fr (W.v H') G σ → Q v H') : te σ H Q := h.run ok fr fun v H' s p => k v H' s p (fr.mo s.1)
theorem run_args {ta : TA} {ts : List Ty} {Q : List V → Hp → Prop} (h : EVA W G ta ts) (ok : W.ok H) (fr : Fr (W.v H) G σ) (k : ∀ vs H', W.st H H' → Al (W.v H') ts vs → Fr (W.v H') G σ → Q vs H') : ta σ H Q := h.run ok fr fun v H' s p => k v H' s p (fr.mo s.1)
theorem run_fldQ {K : PySem.W.Frag} {to tv : TE} {f : Str} (k : tv σ H fun y H1 => to σ H1 fun x H2 => ∃ a C dx fs, x = .ref a ∧ H2 a = some (.ins C dx fs) ∧ Cls K C ∧ NoAttr K C f ∧ fs.length < 1000 ∧ D.nx σ (upd H2 a (.ins C dx (putF f y fs)))) : sFld K to tv f D σ H := k
theorem run_retH {ts : List Ty} {u : TS} (h : EVN W G te ts) (ok : W.ok H) (fr : Fr (W.v H) G σ) (k : ∀ D' acc H', D' ∉ W.M → (W.own D' (.lst acc) trivial).ok H' → Xt (W.v H) ((W.own D' (.lst acc) trivial).v H') → Al ((W.own D' (.lst acc) trivial).v H') ts acc → D.rt (.ref D') H') : tSeq (tRet te) u D σ H := h.run ok fr k
theorem run_retH1 {ts : List Ty} (h : EVN W G te ts) (ok : W.ok H) (fr : Fr (W.v H) G σ) (k : ∀ D' acc H', D' ∉ W.M → (W.own D' (.lst acc) trivial).ok H' → Xt (W.v H) ((W.own D' (.lst acc) trivial).v H') → Al ((W.own D' (.lst acc) trivial).v H') ts acc → D.rt (.ref D') H') : tRet te D σ H := h.run ok fr k
/-- one way or the other -/
theorem run_ifu (h : EVT W G tt b) (ok : W.ok H) (fr : Fr (W.v H) G σ) (k : ∀ H', W.st H H' → Fr (W.v H') G σ → if b = true then t D σ H' else v D σ H') : tIfS tt t v D σ H :=
  h.run ok fr fun H1 s1 => k H1 s1 (fr.mo s1.1)
end
section
variable {P : Program} {w : World} {K : PySem.W.Frag} {mg : Str → Option Value} {base : Heap}
theorem g_ok {x qual : Str} {st : Stmt} {f : Addr} {fd : FuncData} {N ps : List Str} {k : Nat} {ι : Type} {hs : ι → Wd → Prop} {args : ι → List Ty} {res : ι → Ty} (F : Fun K x qual st f fd) (S : FnScope N ps (defScope st)) (hl : ∀ i, (args i).length = ps.length)
    (hb : ∀ (cdv : Value) (A : Around) (outer : List Env) (s : Shared) (H : Hp) (E : XK), Room k (A.deeper (envOfC qual (defScope st) s.heap.objs.size f cdv)) →
      ∃ t, PSs (cxOf CX0 P w K mg base N qual (defScope st) f cdv A outer s H E).nox (defBody st) t ∧ ∀ (W : Wd) (i : ι), hs i W → ST W ((args i).map some ++ List.replicate (N.length - ps.length) none) t (res i)) :
    FnOk P w K mg base CX0 (k + 1) f fd ps (gSp hs args res) := by
  refine F.ok S (fun vs H Q E h => ?_) (fun cdv A outer s H vs Q E hr h => ?_)
  · obtain ⟨i, W, _, _, al, _⟩ := h
    rw [← al.len, hl]
  · obtain ⟨i, W, hi, okW, al, kq⟩ := h
    obtain ⟨t, ht, hs⟩ := hb cdv A outer s H E hr
    refine ⟨t, ht, ?_⟩
    have e : vs.length = ps.length := by rw [← al.len, hl]
    have fr : Fr (W.v H) ((args i).map some ++ List.replicate (N.length - ps.length) none) (L2.start N vs) := by
      unfold L2.start
      rw [e]
      exact Fr.start al
    exact (hs W i hi).run okW fr (fun σ' H' s p => kq .non H' s p) fun v H' s p => kq v H' s p
/-- a body by hand -/
theorem h_okL {x qual : Str} {st : Stmt} {f : Addr} {fd : FuncData} {N ps : List Str} {k : Nat} {ι : Type} {hs : ι → Wd → Prop} {args : ι → List Ty} {res : ι → List Ty} (F : Fun K x qual st f fd) (S : FnScope N ps (defScope st)) (hl : ∀ i, (args i).length = ps.length)
    (hb : ∀ (cdv : Value) (A : Around) (outer : List Env) (s : Shared) (H : Hp) (E : XK), Room k (A.deeper (envOfC qual (defScope st) s.heap.objs.size f cdv)) →
      ∃ t, PSs (cxOf CX0 P w K mg base N qual (defScope st) f cdv A outer s H E).nox (defBody st) t ∧ ∀ (W : Wd) (i : ι) (σ : L2.St) (H : Hp) (Q : VK), hs i W → W.ok H → Fr (W.v H) ((args i).map some ++ List.replicate (N.length - ps.length) none) σ →
        (∀ D acc H', D ∉ W.M → (W.own D (.lst acc) trivial).ok H' → Xt (W.v H) ((W.own D (.lst acc) trivial).v H') → Al ((W.own D (.lst acc) trivial).v H') (res i) acc → Q (.ref D) H') → t { nx := fun _ H' => Q .non H', rt := Q } σ H) :
    FnOk P w K mg base CX0 (k + 1) f fd ps (hSpL hs args res) := by
  refine F.ok S (fun vs H Q E h => ?_) (fun cdv A outer s H vs Q E hr h => ?_)
  · obtain ⟨i, W, _, _, al, _⟩ := h
    rw [← al.len, hl]
  · obtain ⟨i, W, hi, okW, al, kq⟩ := h
    obtain ⟨t, ht, hs⟩ := hb cdv A outer s H E hr
    refine ⟨t, ht, hs W i _ H Q hi okW ?_ kq⟩
    have e : vs.length = ps.length := by rw [← al.len, hl]
    unfold L2.start
    rw [e]
    exact Fr.start al
theorem h_okD {x qual : Str} {st : Stmt} {f : Addr} {fd : FuncData} {N ps : List Str} {k : Nat} {ι : Type} {hs : ι → Wd → Prop} {args : ι → List Ty} {res : ι → List (Nat × Nat)} (F : Fun K x qual st f fd) (S : FnScope N ps (defScope st)) (hl : ∀ i, (args i).length = ps.length)
    (hb : ∀ (cdv : Value) (A : Around) (outer : List Env) (s : Shared) (H : Hp) (E : XK), Room k (A.deeper (envOfC qual (defScope st) s.heap.objs.size f cdv)) →
      ∃ t, PSs (cxOf CX0 P w K mg base N qual (defScope st) f cdv A outer s H E).nox (defBody st) t ∧ ∀ (W : Wd) (i : ι) (σ : L2.St) (H : Hp) (Q : VK), hs i W → W.ok H → Fr (W.v H) ((args i).map some ++ List.replicate (N.length - ps.length) none) σ →
        (∀ D H', D ∉ W.M → (W.own D (.dK (kvN (res i))) trivial).ok H' → Xt (W.v H) ((W.own D (.dK (kvN (res i))) trivial).v H') → Q (.ref D) H') → t { nx := fun _ H' => Q .non H', rt := Q } σ H) :
    FnOk P w K mg base CX0 (k + 1) f fd ps (hSpD hs args res) := by
  refine F.ok S (fun vs H Q E h => ?_) (fun cdv A outer s H vs Q E hr h => ?_)
  · obtain ⟨i, W, _, _, al, _⟩ := h
    rw [← al.len, hl]
  · obtain ⟨i, W, hi, okW, al, kq⟩ := h
    obtain ⟨t, ht, hs⟩ := hb cdv A outer s H E hr
    refine ⟨t, ht, hs W i _ H Q hi okW ?_ kq⟩
    have e : vs.length = ps.length := by rw [← al.len, hl]
    unfold L2.start
    rw [e]
    exact Fr.start al
end
/-! ## the draw -/
abbrev St3 := List (List Nat) × List (Option Nat) × List (Nat × Nat)
abbrev DSt := St3 × List St3
section
variable {K : PySem.W.Frag} {mg : Str → Option Value} {W : Wd} {G : Ctx}
abbrev tTrip (T : Tp K mg) (s : St3) : Ty := Ty.tup [tTab T s.1, tStand s.2.1, tHist s.2.2]
def DrAt (T : Tp K mg) (a pl : Addr) (s : DSt) (h H : Hp) : Prop := ∃ dx nv pv, H a = some (.ins T.Draw.C dx [("now", nv), ("past", .ref pl)]) ∧ (tTrip T s.1).p h nv ∧ H pl = some (.lst pv) ∧ Al h (s.2.map (tTrip T)) pv
theorem DrAt.cl {T : Tp K mg} {a pl : Addr} {s : DSt} : Cl [a, pl] (DrAt T a pl s) where
  al := fun {h H x} ⟨dx, nv, pv, e1, _, e2, _⟩ hx => by
    rcases List.mem_cons.mp hx with e | hx
    · rw [e]; exact ⟨_, e1⟩
    · rw [List.mem_singleton.mp hx]; exact ⟨_, e2⟩
  mo := fun {h h' H H'} ⟨dx, nv, pv, e1, p, e2, al⟩ x k => ⟨dx, nv, pv, by rw [k a (by simp)]; exact e1, (tTrip T s.1).mo x p, by rw [k pl (by simp)]; exact e2, al.mo x⟩
abbrev HasD (T : Tp K mg) (a pl : Addr) (s : DSt) (W : Wd) : Prop := Has W [a, pl] (DrAt T a pl s)
theorem lk_now {nv pv : V} : List.lookup ("now" : Str) ([("now", nv), ("past", pv)] : List (Str × V)) = some nv := rfl
theorem lk_past {nv pv : V} : List.lookup ("past" : Str) ([("now", nv), ("past", pv)] : List (Str × V)) = some pv := lk2 (by decide +kernel)
theorem EV.now {T : Tp K mg} {a pl : Addr} {s : DSt} {te : TE} (c : HasD T a pl s W) (h : EV W G te (Ty.is (.ref a))) : EV W G (tFld K te "now") (tTrip T s.1) := ⟨fun ok fr k => h.run ok fr fun v H1 s1 p => by
  cases p
  obtain ⟨dx, nv, pv, e1, pn, e2, al⟩ := c.at s1.2
  exact ⟨a, _, dx, _, nv, rfl, e1, T.Draw.cl, T.Draw.na _ (by decide +kernel), lk_now, k nv H1 s1 pn⟩⟩
theorem EV.past {T : Tp K mg} {a pl : Addr} {s : DSt} {te : TE} (c : HasD T a pl s W) (h : EV W G te (Ty.is (.ref a))) : EV W G (tFld K te "past") (Ty.is (.ref pl)) := ⟨fun ok fr k => h.run ok fr fun v H1 s1 p => by
  cases p
  obtain ⟨dx, nv, pv, e1, pn, e2, al⟩ := c.at s1.2
  exact ⟨a, _, dx, _, .ref pl, rfl, e1, T.Draw.cl, T.Draw.na _ (by decide +kernel), lk_past, k _ H1 s1 rfl⟩⟩
theorem HasD.ins {T : Tp K mg} {a pl : Addr} {s : DSt} {m : Str} (c : HasD T a pl s W) (hm : ∀ f ∈ (["now", "past"] : List Str), m ≠ f) (H : Hp) (ok : W.ok H) : ∃ dx fs, H a = some (.ins T.Draw.C dx fs) ∧ fs.lookup m = none := by
  obtain ⟨dx, nv, pv, e1, pn, e2, al⟩ := c.at ok
  refine ⟨dx, _, e1, ?_⟩
  have h1 : (m == ("now" : Str)) = false := beq_eq_false_iff_ne.mpr (hm _ (by simp))
  have h2 : (m == ("past" : Str)) = false := beq_eq_false_iff_ne.mpr (hm _ (by simp))
  simp only [List.lookup, h1, h2]
end
end Fo
set_option Elab.async false
set_option linter.all false
set_option maxRecDepth 100000
set_option maxHeartbeats 1000000
namespace Fo
open PySem PySem.Spec PyProof.Rows L2
local macro_rules | `(tactic| walk_at "ev") => `(tactic| first
  | ((with_reducible apply EV.var); rfl)
  | (with_reducible exact EV.cst)
  | (with_reducible exact EVA.nil)
  | (with_reducible exact EVO.none)
  | ((with_reducible apply EVO.some); (· walk_at "ev"))
  | ((with_reducible apply EVA.cons); (· walk_at "ev"); (· walk_at "ev"))
  | ((with_reducible apply EV.op); (· walk_at "ev"); (· walk_at "ev"); (· walk_at "rv"))
  | ((with_reducible apply EV.un); (· walk_at "ev"); (· exact RU.neg))
  | ((with_reducible apply EV.chain); (· walk_at "ev"); (· walk_at "ev"); (· walk_at "rv"); (· walk_at "ev"); (· walk_at "rv"))
  | ((with_reducible apply EV.cb); (· walk_at "ev"); (· walk_at "rv"))
  | ((with_reducible apply EV.bits); (· walk_at "ev"))
  | ((with_reducible apply EV.slT); (· walk_at "ev"); (· walk_at "ev"); (· walk_at "ev"))
  | ((with_reducible apply EV.isN); (· walk_at "ev"))
  | ((with_reducible apply EV.notN); (· walk_at "ev"))
  | ((with_reducible apply EV.notV); (· walk_at "ev"))
  | ((with_reducible apply EV.andV); (· walk_at "ev"); (· intro _; walk_at "ev"))
  | ((with_reducible apply EVT.test); (· walk_at "ev"))
  | ((with_reducible apply EVT.B); (· walk_at "ev"))
  | ((with_reducible apply EVT.not); (· walk_at "ev"))
  | ((with_reducible apply EV.tup); (· walk_at "ev"); (· decide))
  | ((with_reducible apply EV.lst); (· walk_at "ev"); (· decide))
  | ((with_reducible apply EVI.list); (· walk_at "ev"))
  | ((with_reducible apply EVI.tup); (· walk_at "ev"))
  | ((with_reducible apply EVI.enum); (· walk_at "ev"))
  | ((with_reducible apply EVI.enumT); (· walk_at "ev"))
  | ((with_reducible apply EVI.zipT); (· walk_at "ev"); (· walk_at "ev")))
local macro_rules | `(tactic| walk_at "rv") => `(tactic| first
  | exact RV.I0
  | exact RV.oneShl (by decide)
  | exact RV.shrN
  | exact RV.odd
  | exact RC.isi_ii
  | exact RC.isi_ib
  | exact RC.isi_tt
  | exact RC.isi_ss
  | exact RC.lenT
  | exact RC.lenL
  | exact RC.sumF
  | exact RC.allF
  | exact RV.inTN
  | exact RV.inLN
  | exact RV.inTO
  | exact RC.tupOf
  | exact RC.lstOfT
  | exact RC.lstOfL
  | exact RC.int
  | exact RC.intB
  | exact RC.abs
  | exact RV.Eq rfl
  | exact RV.Ne rfl)
/-! ## Draw: what only reads -/
theorem ST.asg3 {K : PySem.W.Frag} {W : Wd} {G : Ctx} {te : TE} {u : TS} {R : Ty} {i j l : Nat} {T1 T2 T3 : Ty} (h : EV W G te (Ty.tup [T1, T2, T3])) (k : ST W (((G.set i (some T1)).set j (some T2)).set l (some T3)) u R) : ST W G (tSeq (tAsg te (gTup K 3 (gCons (gName i) (gCons (gName j) (gCons (gName l) gNil))))) u) R := ⟨fun ok fr kn kr =>
  h.run ok fr fun v H1 s1 p => by
    obtain ⟨a, vs, rfl, e, al⟩ := p
    match vs, al with
    | [x, y, z], al =>
      exact ⟨a, [x, y, z], rfl, .inl (rd_vis e), rfl, x, [y, z], rfl, y, [z], rfl, z, [], rfl, rfl,
        k.run s1.2 ((((fr.mo s1.1).set al.1 i).set al.2.1 j).set al.2.2.1 l) (fun σ' H' s => kn σ' H' (s1.trans s)) fun w H' s => kr w H' (s1.trans s)⟩⟩
theorem notF {p : Prop} {i : Decidable p} (h : p) : (!(@decide p i)) = false := by rw [decide_eq_true h]; rfl
def Sok (s : St3) : Prop := RowsOk s.1 ∧ StOk s.1.length s.2.1
theorem Sok.l4 {s : St3} (h : Sok s) : s.2.1.length ≤ 4 := by rw [h.2.1]; exact h.1.2.1
def chs (s : St3) (c : Bool × Nat) : List Nat := if c.1 then opn s.1 (und s.2.1) (unu s.2.1) c.2 else opr s.1 (und s.2.1) (unu s.2.1) c.2
theorem waiting_mem {S : List (Option Nat)} {b : Bool} {n : Nat} : (b, n) ∈ waiting S ↔ if b then n ∈ und S else n ∈ unu S := by
  unfold waiting
  rw [List.mem_append, List.mem_map, List.mem_map]
  cases b with
  | true =>
    constructor
    · rintro (⟨p, h, e⟩ | ⟨p, h, e⟩)
      · cases e; exact h
      · cases e
    · exact fun h => .inl ⟨n, h, rfl⟩
  | false =>
    constructor
    · rintro (⟨p, h, e⟩ | ⟨p, h, e⟩)
      · cases e
      · cases e; exact h
    · exact fun h => .inr ⟨n, h, rfl⟩
theorem Sok.lt {s : St3} (h : Sok s) {c : Bool × Nat} (hc : c ∈ waiting s.2.1) : c.2 < s.1.length := by
  obtain ⟨b, n⟩ := c
  have h2 := waiting_mem.mp hc
  cases b with
  | true => have := (und_mem.mp h2).1; rw [h.2.1] at this; exact this
  | false => have := (unu_mem.mp h2).1; rw [h.2.1] at this; exact this
section
variable {P : Program} {w : World} {K : PySem.W.Frag} {mg : Str → Option Value} {base : Heap}
/-- reading methods: the draw at a, its state s, and an argument -/
abbrev DIx (α : Type) := Addr × Addr × DSt × α
abbrev hD (T : Tp K mg) {α : Type} (ok : DSt → α → Prop) (i : DIx α) (W : Wd) : Prop := HasD T i.1 i.2.1 i.2.2.1 W ∧ ok i.2.2.1 i.2.2.2
abbrev sp_check_comer (T : Tp K mg) : Sp := gSp (hD T fun s (c : Bool × Nat) => Sok s.1 ∧ c ∈ waiting s.1.2.1) (fun i => [Ty.is (.ref i.1), tComer i.2.2.2]) (fun _ => tNon)
theorem ok_Draw_check_comer (T : Tp K mg) : FnOk P w K mg base CX0 4 T.Draw_check_comer.a T.Draw_check_comer.fd p_Draw_check_comer (sp_check_comer T) :=
  g_ok T.Draw_check_comer.F sc_Draw_check_comer (fun _ => rfl) fun cdv A outer s H E hr => by
    have nd := sc_Draw_check_comer.nd
    refine ⟨_, (pss_cons (ps_asg (pe_fld (pv 0) rfl) (pg_tup (by rfl) (pgs_cons (pg_name (i := 2) nd rfl (Or.inl rfl)) (pgs_cons (pg_name (i := 3) nd rfl (Or.inl rfl)) (pgs_cons (pg_name (i := 4) nd rfl (Or.inl rfl)) pgs_nil))))) (pss_cons (ps_if (PW.pt (pw_or (pt_not (pt_val (pe_call (ok_is_pair T) (hr.mono (by first | decide | omega)) rfl T.is_pair.m T.is_pair.F.kp T.is_pair.b .nil pass0 (pa_cons (pv 1) pa_nil)))) (pw_or (pt_not (pt_val (pe_callB call_isi (by rfl) T.b_isinstance (by decide +kernel) (pa_cons (pe_ix ix_tup (pv 1) pe_int (fun _ _ => rfl)) (pa_cons (pe_bltn (v := .ty "str") (by rfl) T.b_str (by decide +kernel) rfl) pa_nil))))) (pw_or1 (pt_not (pt_val (pe_call (ok_is_person T) (hr.mono (by first | decide | omega)) rfl T.is_person.m T.is_person.F.kp T.is_person.b .nil pass0 (pa_cons (pv 2) (pa_cons (pe_ix ix_tup (pv 1) pe_int (fun _ _ => rfl)) pa_nil))))))))) (pss_one ps_never) pss_nil) (pss_one (ps_if (pt_cmpR (op_notInD (u65 hr)) (pv 1) (pe_call (ok_waiting_comers T) (hr.mono (by first | decide | omega)) rfl T.waiting_comers.m T.waiting_comers.F.kp T.waiting_comers.b .nil pass0 (pa_cons (pv 3) pa_nil)) rfl) (pss_one ps_never) pss_nil)))), fun W i hi => ?_⟩
    obtain ⟨a, pl, s, c⟩ := i
    obtain ⟨hd, hs, hc⟩ := hi
    have hd : HasD T a pl s W := hd
    have hs : Sok s.1 := hs
    have hc : c ∈ waiting s.1.2.1 := hc
    have hl := hs.lt hc
    refine ST.asg3 (EV.now hd (EV.var rfl)) ?_
    refine ST.if_ (b := false) (EVT.eq (EVT.or (EVT.not (EVT.B (EV.call (tS (if c.1 then "person" else "thing"), tN c.2) (by walk_at "ev") trivial))) fun _ => EVT.or (EVT.not (EVT.B (EV.cb (EVA.cons (EV.who rfl) (EVA.cons EV.cst EVA.nil)) RC.isi_ss))) fun _ => EVT.not (EVT.B (EV.call (s.1.1, (c.2 : Int)) (EVA.cons (EV.var rfl) (EVA.cons (EV.num rfl) EVA.nil)) trivial))) ?_) (fun h => by cases h) fun _ => ST.skip ?_
    · simp; omega
    · refine ST.if1 (b := false) (EVT.eq (EVT.B (EV.op (EV.var rfl) (EV.call s.1.2.1 (by walk_at "ev") hs.l4) (RV.notInD Dm.C (by decide) isD_comer (isD_lstM fun _ => isD_comer)))) ?_) (fun h => by cases h) fun _ => ST.next fun _ => rfl
      exact notF hc
abbrev sp_choices (T : Tp K mg) : Sp := hSpL (hD T fun s (c : Bool × Nat) => Sok s.1 ∧ c ∈ waiting s.1.2.1) (fun i => [Ty.is (.ref i.1), tComer i.2.2.2]) (fun i => (chs i.2.2.1.1 i.2.2.2).map tN)
theorem opn_len {R : List (List Nat)} {P T : List Nat} {p : Nat} (hR : RowsOk R) (hp : p < R.length) : (opn R P T p).length ≤ 4 := by
  have h1 := List.length_filter_le (fun x => decide (x ∈ T)) (R.getD p [])
  have h2 := hR.len4 (hR.row hp)
  have h3 := List.length_filter_le (fun x => decide (0 < behind R P T p x)) ((R.getD p []).filter fun x => decide (x ∈ T))
  unfold opn
  omega
theorem opr_len {R : List (List Nat)} {P T : List Nat} {x : Nat} (hR : RowsOk R) : (opr R P T x).length ≤ 4 := by
  have h1 := List.length_filter_le (fun p => decide (p ∈ P) && decide (x ∈ R.getD p [])) (List.range R.length)
  have h3 := List.length_filter_le (fun p => decide (0 < behind R P T p x)) ((List.range R.length).filter fun p => decide (p ∈ P) && decide (x ∈ R.getD p []))
  rw [List.length_range] at h1
  have := hR.2.1
  unfold opr
  omega
theorem ok_Draw_choices (T : Tp K mg) : FnOk P w K mg base CX0 9 T.Draw_choices.a T.Draw_choices.fd p_Draw_choices (sp_choices T) :=
  h_okL T.Draw_choices.F sc_Draw_choices (fun _ => rfl) fun cdv A outer s H E hr => by
    have nd := sc_Draw_choices.nd
    refine ⟨_, (pss_cons (ps_asg (pe_fld (pv 0) rfl) (pg_tup (by rfl) (pgs_cons (pg_name (i := 2) nd rfl (Or.inl rfl)) (pgs_cons (pg_name (i := 3) nd rfl (Or.inl rfl)) (pgs_cons (pg_name (i := 4) nd rfl (Or.inl rfl)) pgs_nil))))) (pss_cons (ps_asg (pe_call (ok_left_of T) (hr.mono (by first | decide | omega)) rfl T.left_of.m T.left_of.F.kp T.left_of.b .nil pass0 (pa_cons (pv 3) pa_nil)) (pg_tup (by rfl) (pgs_cons (pg_name (i := 5) nd rfl (Or.inl rfl)) (pgs_cons (pg_name (i := 6) nd rfl (Or.inl rfl)) pgs_nil)))) (pss_cons (ps_if (pt_cmpR op_eq (pe_ix ix_tup (pv 1) pe_int (fun _ _ => rfl)) pe_str (nomark _)) (pss_one (ps_ret (pe_lc (own := [("thing", 7), ("many", 8)]) rfl nd (pi_list (pe_call (ok_opens T) (hr.mono (by first | decide | omega)) rfl T.opens.m T.opens.F.kp T.opens.b .nil pass0 (pa_cons (pe_make T.Counter.mkk (ok_Counter_init T) (hr.mono (by first | decide | omega)) rfl T.Counter.m T.Counter.b .nil pass0 (pa_cons (pe_fld (pv 2) rfl) pa_nil)) (pa_cons (pv 5) (pa_cons (pv 6) (pa_cons (pe_ix ix_tup (pv 1) pe_int (fun _ _ => rfl)) pa_nil)))))) (blkOk_by (own := [("thing", 7), ("many", 8)]) (N := n_Draw_choices) (sc := defScope s_Draw_choices) (by decide +kernel)) (fun _ _ _ _ _ => (pg_tupC (K := K) (n := 2) rfl (by rfl) (pgs_cons (pg_name (i := 7) nd rfl (Or.inl rfl)) (pgs_cons (pg_name (i := 8) nd rfl (Or.inl rfl)) pgs_nil)))) (fun _ _ _ _ _ => pts_nil) (fun _ _ _ _ _ => (pv 7))))) pss_nil) (pss_one (ps_ret (pe_lc (own := [("person", 9), ("many", 8)]) rfl nd (pi_list (pe_call (ok_openers T) (hr.mono (by first | decide | omega)) rfl T.openers.m T.openers.F.kp T.openers.b .nil pass0 (pa_cons (pe_make T.Counter.mkk (ok_Counter_init T) (hr.mono (by first | decide | omega)) rfl T.Counter.m T.Counter.b .nil pass0 (pa_cons (pe_fld (pv 2) rfl) pa_nil)) (pa_cons (pv 5) (pa_cons (pv 6) (pa_cons (pe_ix ix_tup (pv 1) pe_int (fun _ _ => rfl)) pa_nil)))))) (blkOk_by (own := [("person", 9), ("many", 8)]) (N := n_Draw_choices) (sc := defScope s_Draw_choices) (by decide +kernel)) (fun _ _ _ _ _ => (pg_tupC (K := K) (n := 2) rfl (by rfl) (pgs_cons (pg_name (i := 9) nd rfl (Or.inl rfl)) (pgs_cons (pg_name (i := 8) nd rfl (Or.inl rfl)) pgs_nil)))) (fun _ _ _ _ _ => pts_nil) (fun _ _ _ _ _ => (pv 9)))))))), fun W i σ H Q hi ok fr kq => ?_⟩
    obtain ⟨a, pl, s, b, n⟩ := i
    obtain ⟨hd, hs, hc⟩ := hi
    have hd : HasD T a pl s W := hd
    have hs : Sok s.1 := hs
    have hc : (b, n) ∈ waiting s.1.2.1 := hc
    have hl := hs.lt hc
    have h4 := hs.l4
    have hm := MkOk.st hs.1 hs.2
    have e1 := (nums_und h4).1
    have e2 := (nums_unu h4).1
    refine run_asg3 (EV.now hd (EV.var rfl)) ok fr fun σ1 H1 s1 fr1 => run_asg2 (EV.call s.1.2.1 (by walk_at "ev") h4) s1.2 fr1 fun σ2 H2 s2 fr2 => ?_
    refine run_ifb (EVT.isP (c := (b, n)) rfl) s2.2 fr2 (fun h H3 s3 fr3 => ?_) (fun h H3 s3 fr3 => run_next ?_)
    · have h : b = true := h
      subst h
      have hc2 : n ∈ und s.1.2.1 := waiting_mem.mp hc
      refine run_retH (EVN.lcYW (opn s.1.1 (und s.1.2.1) (unu s.1.2.1) n) (fun x => tMany x (behind s.1.1 (und s.1.2.1) (unu s.1.2.1) n x)) tN _ (EVI.list (EV.eq (EV.withCnt (T := T) (R := s.1.1) (s.1.1, mask (und s.1.2.1), mask (unu s.1.2.1), n) [_, _, _] (EV.fld (EV.var rfl) (has_rows T s.1.1)) hs.1.2.1 rfl (fun d hd' => EVA.cons (EV.var rfl) (EVA.cons (EV.var rfl) (EVA.cons (EV.num (c := (true, n)) rfl) EVA.nil))) ⟨hm, ?_⟩) ?_)) (fun a _ => GT.two (by decide) (by decide)) (fun D o hD a ha => EV.var rfl) (Nat.le_trans (opn_len hs.1 hl) (by decide))) s3.2 fr3 fun D acc H' hD o x al => kq D acc H' hD o (((s1.trans s2).trans s3).1.trans x) al
      · show n ∈ nums (mask (und s.1.2.1)); rw [e1]; exact hc2
      · show Ty.lst _ = Ty.lst _; rw [e1, e2]
    · have h : b = false := h
      subst h
      have hc2 : n ∈ unu s.1.2.1 := waiting_mem.mp hc
      refine run_retH1 (EVN.lcYW (opr s.1.1 (und s.1.2.1) (unu s.1.2.1) n) (fun p => tMany p (behind s.1.1 (und s.1.2.1) (unu s.1.2.1) p n)) tN _ (EVI.list (EV.eq (EV.withCnt (T := T) (R := s.1.1) (s.1.1, mask (und s.1.2.1), mask (unu s.1.2.1), n) [_, _, _] (EV.fld (EV.var rfl) (has_rows T s.1.1)) hs.1.2.1 rfl (fun d hd' => EVA.cons (EV.var rfl) (EVA.cons (EV.var rfl) (EVA.cons (EV.num (c := (false, n)) rfl) EVA.nil))) ⟨hm, ?_⟩) ?_)) (fun a _ => GT.two (by decide) (by decide)) (fun D o hD a ha => EV.var rfl) (Nat.le_trans (opr_len hs.1) (by decide))) s3.2 fr3 fun D acc H' hD o x al => kq D acc H' hD o (((s1.trans s2).trans s3).1.trans x) al
      · show n ∈ nums (mask (unu s.1.2.1)); rw [e2]; exact hc2
      · show Ty.lst _ = Ty.lst _; rw [e1, e2]
theorem ok_Draw_open_for (T : Tp K mg) : FnOk P w K mg base CX0 10 T.Draw_open_for.a T.Draw_open_for.fd p_Draw_open_for (sp_choices T) :=
  h_okL T.Draw_open_for.F sc_Draw_open_for (fun _ => rfl) fun cdv A outer s H E hr => by
    have nd := sc_Draw_open_for.nd
    refine ⟨_, (pss_cons (ps_expr (pe_meth (pv 0) T.Draw.cl T.Draw_check_comer.mt (ok_Draw_check_comer T) (hr.mono (by first | decide | omega)) T.Draw_check_comer.b .nil pass0 (pa_cons (pv 1) pa_nil))) (pss_one (ps_ret (pe_meth (pv 0) T.Draw.cl T.Draw_choices.mt (ok_Draw_choices T) (hr.mono (by first | decide | omega)) T.Draw_choices.b .nil pass0 (pa_cons (pv 1) pa_nil))))), fun W i σ H Q hi ok fr kq => ?_⟩
    obtain ⟨hd, hi2⟩ := hi
    exact run_drop (EV.methG i ⟨hd, hi2⟩ (EV.var rfl) (hd.ins (by decide +kernel)) (by walk_at "ev")) ok fr fun H1 s1 fr1 => run_retH1 (EVN.methG i ⟨hd, hi2⟩ (EV.var rfl) (hd.ins (by decide +kernel)) (by walk_at "ev")) s1.2 fr1 fun D acc H' hD o x al => kq D acc H' hD o (s1.1.trans x) al
abbrev sp_get (T : Tp K mg) (res : DSt → Ty) : Sp := gSp (hD T fun s (_ : Unit) => Sok s.1) (fun i => [Ty.is (.ref i.1)]) (fun i => res i.2.2.1)
theorem ok_Draw_standing (T : Tp K mg) : FnOk P w K mg base CX0 1 T.Draw_standing.a T.Draw_standing.fd p_Draw_standing (sp_get T fun s => tStand s.1.2.1) :=
  g_ok T.Draw_standing.F sc_Draw_standing (fun _ => rfl) fun cdv A outer s H E hr => by
    have nd := sc_Draw_standing.nd
    refine ⟨_, (pss_one (ps_ret (pe_ix ix_tup (pe_fld (pv 0) rfl) pe_int (fun _ _ => rfl)))), fun W i hi => ?_⟩
    exact ST.ret (EV.ixT (j := 1) (EV.now hi.1 (EV.var rfl)) EV.cst rfl rfl)
theorem ok_Draw_history (T : Tp K mg) : FnOk P w K mg base CX0 1 T.Draw_history.a T.Draw_history.fd p_Draw_history (sp_get T fun s => tHist s.1.2.2) :=
  g_ok T.Draw_history.F sc_Draw_history (fun _ => rfl) fun cdv A outer s H E hr => by
    have nd := sc_Draw_history.nd
    refine ⟨_, (pss_one (ps_ret (pe_ix ix_tup (pe_fld (pv 0) rfl) pe_int (fun _ _ => rfl)))), fun W i hi => ?_⟩
    exact ST.ret (EV.ixT (j := 2) (EV.now hi.1 (EV.var rfl)) EV.cst rfl rfl)
theorem ok_Draw_table (T : Tp K mg) : FnOk P w K mg base CX0 1 T.Draw_table.a T.Draw_table.fd p_Draw_table (sp_get T fun s => tTab T s.1.1) :=
  g_ok T.Draw_table.F sc_Draw_table (fun _ => rfl) fun cdv A outer s H E hr => by
    have nd := sc_Draw_table.nd
    refine ⟨_, (pss_one (ps_ret (pe_ix ix_tup (pe_fld (pv 0) rfl) pe_int (fun _ _ => rfl)))), fun W i hi => ?_⟩
    exact ST.ret (EV.ixT (j := 0) (EV.now hi.1 (EV.var rfl)) EV.cst rfl rfl)
theorem ok_Draw_many (T : Tp K mg) : FnOk P w K mg base CX0 9 T.Draw_many.a T.Draw_many.fd p_Draw_many (sp_get T fun s => tN (cntL s.1.1 (und s.1.2.1) (unu s.1.2.1))) :=
  g_ok T.Draw_many.F sc_Draw_many (fun _ => rfl) fun cdv A outer s H E hr => by
    have nd := sc_Draw_many.nd
    refine ⟨_, (pss_one (ps_ret (pe_call (ok_many_behind T) (hr.mono (by first | decide | omega)) rfl T.many_behind.m T.many_behind.F.kp T.many_behind.b .nil pass0 (pa_cons (pe_make T.Counter.mkk (ok_Counter_init T) (hr.mono (by first | decide | omega)) rfl T.Counter.m T.Counter.b .nil pass0 (pa_cons (pe_fld (pe_ix ix_tup (pe_fld (pv 0) rfl) pe_int (fun _ _ => rfl)) rfl) pa_nil)) (pa_cons (pe_ix ix_tup (pe_fld (pv 0) rfl) pe_int (fun _ _ => rfl)) pa_nil))))), fun W i hi => ?_⟩
    have hs : Sok i.2.2.1.1 := hi.2
    exact ST.ret (EV.withCnt (T := T) (R := i.2.2.1.1.1) (i.2.2.1.1.1, i.2.2.1.1.2.1) [_] (EV.fld (EV.ixT (j := 0) (EV.now hi.1 (EV.var rfl)) EV.cst rfl rfl) (has_rows T _)) hs.1.2.1 rfl (fun d hd' => EVA.cons (EV.ixT (j := 1) (EV.now (Has.cnt hi.1) (EV.var rfl)) EV.cst rfl rfl) EVA.nil) ⟨hs.1, hs.2⟩)
abbrev sp_settled (T : Tp K mg) : Sp := hSpD (hD T fun s (_ : Unit) => Sok s.1) (fun i => [Ty.is (.ref i.1)]) (fun i => settled i.2.2.1.1.1 i.2.2.1.1.2.1)
theorem ok_Draw_settled (T : Tp K mg) : FnOk P w K mg base CX0 11 T.Draw_settled.a T.Draw_settled.fd p_Draw_settled (sp_settled T) :=
  h_okD T.Draw_settled.F sc_Draw_settled (fun _ => rfl) fun cdv A outer s H E hr => by
    have nd := sc_Draw_settled.nd
    refine ⟨_, (pss_one (ps_ret (pe_call (ok_settled_in T) (hr.mono (by first | decide | omega)) rfl T.settled_in.m T.settled_in.F.kp T.settled_in.b .nil pass0 (pa_cons (pe_make T.Counter.mkk (ok_Counter_init T) (hr.mono (by first | decide | omega)) rfl T.Counter.m T.Counter.b .nil pass0 (pa_cons (pe_fld (pe_ix ix_tup (pe_fld (pv 0) rfl) pe_int (fun _ _ => rfl)) rfl) pa_nil)) (pa_cons (pe_ix ix_tup (pe_fld (pv 0) rfl) pe_int (fun _ _ => rfl)) pa_nil))))), fun W i σ H Q hi ok fr kq => ?_⟩
    have hs : Sok i.2.2.1.1 := hi.2
    exact EVD.run (EVD.withCnt (T := T) (R := i.2.2.1.1.1) (i.2.2.1.1.1, i.2.2.1.1.2.1) [_] (EV.fld (EV.ixT (j := 0) (EV.now hi.1 (EV.var rfl)) EV.cst rfl rfl) (has_rows T _)) hs.1.2.1 rfl (fun d hd' => EVA.cons (EV.ixT (j := 1) (EV.now (Has.cnt hi.1) (EV.var rfl)) EV.cst rfl rfl) EVA.nil) ⟨hs.1, hs.2⟩) ok fr kq
theorem EV.lenPast {T : Tp K mg} {W : Wd} {G : Ctx} {a pl : Addr} {s : DSt} {te : TE} (c : HasD T a pl s W) (h : EV W G te (Ty.is (.ref a))) : EV W G (tCB (rLenS K) (tCons (tFld K te "past") tNil)) (tN s.2.length) := ⟨fun ok fr k => (EV.past c h).run ok fr fun v H1 s1 p => by
  cases p
  obtain ⟨dx, nv, pv, e1, pn, e2, al⟩ := c.at s1.2
  refine ⟨pl, pv, rfl, .inl (SqL.of e2), k _ H1 s1 ?_⟩
  show V.int _ = V.int _
  rw [← al.len, List.length_map]⟩
theorem ok_Draw_deeds (T : Tp K mg) : FnOk P w K mg base CX0 1 T.Draw_deeds.a T.Draw_deeds.fd p_Draw_deeds (sp_get T fun s => tN s.2.length) :=
  g_ok T.Draw_deeds.F sc_Draw_deeds (fun _ => rfl) fun cdv A outer s H E hr => by
    have nd := sc_Draw_deeds.nd
    refine ⟨_, (pss_one (ps_ret (pe_callB call_len_seq (by rfl) T.b_len PySem.boot_len (pa_cons (pe_fld (pv 0) rfl) pa_nil)))), fun W i hi => ?_⟩
    exact ST.ret (EV.lenPast hi.1 (EV.var rfl))
end
end Fo
set_option Elab.async false
set_option linter.all false
set_option maxRecDepth 100000
/-! Promises of what changes a cell. -/
namespace Fo
open PySem PySem.Spec PyProof.Rows L2
/-- from the state s to nxt i s -/
def mSp {ι S : Type} (A : ι → List Addr) (C : ι → S → Hp → Hp → Prop) (args : ι → List Ty) (ok : ι → S → Prop) (nxt : ι → S → S) (res : ι → S → Ty) : Sp := fun vs H Q _ => ∃ (i : ι) (F : S → Wd) (s : S), ok i s ∧ Lens F (A i) (C i) ∧ (F s).ok H ∧ Al ((F s).v H) (args i) vs ∧
  ∀ v H', (F (nxt i s)).ok H' → Xt ((F s).v H) ((F (nxt i s)).v H') → (res i s).p ((F (nxt i s)).v H') v → Q v H'
/-- .. or an error of the class at NO, and nothing changed -/
def xSp {ι S : Type} (NO : Addr) (A : ι → List Addr) (C : ι → S → Hp → Hp → Prop) (args : ι → List Ty) (ok : ι → S → Prop) (nxt : ι → S → Option S) : Sp := fun vs H Q E => ∃ (i : ι) (F : S → Wd) (s : S), ok i s ∧ Lens F (A i) (C i) ∧ (F s).ok H ∧ Al ((F s).v H) (args i) vs ∧
  (∀ s', nxt i s = some s' → ∀ H', (F s').ok H' → Xt ((F s).v H) ((F s').v H') → Q .non H') ∧ (nxt i s = none → ∀ H', (F s).st H H' → E (.ref NO) none H')
section
variable {ι S : Type} {A : ι → List Addr} {C : ι → S → Hp → Hp → Prop} {args : ι → List Ty} {ok : ι → S → Prop} {nxt : ι → S → S} {res : ι → S → Ty} {F : S → Wd} {s : S} {G : Ctx} {σ : L2.St} {H : Hp} {Q : VK} {E : XK} {m : Str} {cl a : Addr} {to : TE} {ta : TA} {ts : List Ty}
theorem run_methM (i : ι) (L : Lens F (A i) (C i)) (hi : ok i s) (okF : (F s).ok H) (fr : Fr ((F s).v H) G σ) (ho : EV (F s) G to (Ty.is (.ref a))) (hI : ∀ H, (F s).ok H → ∃ dx fs, H a = some (.ins cl dx fs) ∧ fs.lookup m = none)
    (h : EVA (F s) G ta ts) (k : ∀ v H', (F (nxt i s)).ok H' → Xt ((F s).v H) ((F (nxt i s)).v H') → (res i s).p ((F (nxt i s)).v H') v → Q v H') (e : Ty.is (.ref a) :: ts = args i := by rfl) :
    tMeth cl m (mSp A C args ok nxt res) [] E to ta σ H Q :=
  run_meth okF fr ho hI h fun vs H1 s1 p1 => ⟨i, F, s, hi, L, s1.2, by rw [← e]; exact ⟨rfl, p1⟩, fun v H' o x r => k v H' o (s1.1.trans x) r⟩
theorem run_meth0M (i : ι) (L : Lens F (A i) (C i)) (hi : ok i s) (okF : (F s).ok H) (fr : Fr ((F s).v H) G σ) (ho : EV (F s) G to (Ty.is (.ref a))) (hI : ∀ H, (F s).ok H → ∃ dx fs, H a = some (.ins cl dx fs) ∧ fs.lookup m = none)
    (k : ∀ v H', (F (nxt i s)).ok H' → Xt ((F s).v H) ((F (nxt i s)).v H') → (res i s).p ((F (nxt i s)).v H') v → Q v H') (e : [Ty.is (.ref a)] = args i := by rfl) :
    tMeth cl m (mSp A C args ok nxt res) [] E to tNil σ H Q := run_methM i L hi okF fr ho hI EVA.nil k e
theorem run_callM (i : ι) (L : Lens F (A i) (C i)) (hi : ok i s) (okF : (F s).ok H) (fr : Fr ((F s).v H) G σ) (h : EVA (F s) G ta ts)
    (k : ∀ v H', (F (nxt i s)).ok H' → Xt ((F s).v H) ((F (nxt i s)).v H') → (res i s).p ((F (nxt i s)).v H') v → Q v H') (e : ts = args i := by rfl) :
    tCall (mSp A C args ok nxt res) [] E ta σ H Q :=
  h.run okF fr fun vs H1 s1 p1 => ⟨i, F, s, hi, L, s1.2, by rw [List.append_nil, ← e]; exact p1, fun v H' o x r => k v H' o (s1.1.trans x) r⟩
end
section
variable {P : Program} {w : World} {K : PySem.W.Frag} {mg : Str → Option Value} {base : Heap}
theorem m_ok {x qual : Str} {st : Stmt} {f : Addr} {fd : FuncData} {N ps : List Str} {k : Nat} {ι S : Type} {Ad : ι → List Addr} {C : ι → S → Hp → Hp → Prop} {args : ι → List Ty} {ok : ι → S → Prop} {nxt : ι → S → S} {res : ι → S → Ty} (F : Fun K x qual st f fd) (Sc : FnScope N ps (defScope st)) (hl : ∀ i, (args i).length = ps.length)
    (hb : ∀ (cdv : Value) (A : Around) (outer : List Env) (s : Shared) (H : Hp) (E : XK), Room k (A.deeper (envOfC qual (defScope st) s.heap.objs.size f cdv)) →
      ∃ t, PSs (cxOf CX0 P w K mg base N qual (defScope st) f cdv A outer s H E).nox (defBody st) t ∧ ∀ (i : ι) (F : S → Wd) (s : S) (σ : L2.St) (H : Hp) (Q : VK), ok i s → Lens F (Ad i) (C i) → (F s).ok H → Fr ((F s).v H) ((args i).map some ++ List.replicate (N.length - ps.length) none) σ →
        (∀ v H', (F (nxt i s)).ok H' → Xt ((F s).v H) ((F (nxt i s)).v H') → (res i s).p ((F (nxt i s)).v H') v → Q v H') → t { nx := fun _ H' => Q .non H', rt := Q } σ H) :
    FnOk P w K mg base CX0 (k + 1) f fd ps (mSp Ad C args ok nxt res) := by
  refine F.ok Sc (fun vs H Q E h => ?_) (fun cdv A outer s H vs Q E hr h => ?_)
  · obtain ⟨i, _, _, _, _, _, al, _⟩ := h
    rw [← al.len, hl]
  · obtain ⟨i, F, s', hi, L, okW, al, kq⟩ := h
    obtain ⟨t, ht, hs⟩ := hb cdv A outer s H E hr
    refine ⟨t, ht, ?_⟩
    have e : vs.length = ps.length := by rw [← al.len, hl]
    refine hs i F s' _ H Q hi L okW ?_ kq
    unfold L2.start
    rw [e]
    exact Fr.start al
theorem x_ok {x qual : Str} {st : Stmt} {f : Addr} {fd : FuncData} {N ps : List Str} {k : Nat} {ι S : Type} {NO : Addr} {Ad : ι → List Addr} {C : ι → S → Hp → Hp → Prop} {args : ι → List Ty} {ok : ι → S → Prop} {nxt : ι → S → Option S} (F : Fun K x qual st f fd) (Sc : FnScope N ps (defScope st)) (hl : ∀ i, (args i).length = ps.length)
    (hb : ∀ (cdv : Value) (A : Around) (outer : List Env) (s : Shared) (H : Hp) (E : XK), Room k (A.deeper (envOfC qual (defScope st) s.heap.objs.size f cdv)) →
      ∃ t, PSs (cxOf (L2.CX P w) P w K mg base N qual (defScope st) f cdv A outer s H E) (defBody st) t ∧ ∀ (i : ι) (F : S → Wd) (s : S) (σ : L2.St) (H : Hp) (Q : VK), ok i s → Lens F (Ad i) (C i) → (F s).ok H → Fr ((F s).v H) ((args i).map some ++ List.replicate (N.length - ps.length) none) σ →
        (∀ s', nxt i s = some s' → ∀ H', (F s').ok H' → Xt ((F s).v H) ((F s').v H') → Q .non H') → (nxt i s = none → ∀ H', (F s).st H H' → E (.ref NO) none H') → t { nx := fun _ H' => Q .non H', rt := Q } σ H) :
    FnOk P w K mg base (L2.CX P w) (k + 1) f fd ps (xSp NO Ad C args ok nxt) := by
  refine F.okX Sc (fun vs H Q E h => ?_) (fun cdv A outer s H vs Q E hr h => ?_)
  · obtain ⟨i, _, _, _, _, _, al, _⟩ := h
    rw [← al.len, hl]
  · obtain ⟨i, F, s', hi, L, okW, al, kq, ke⟩ := h
    obtain ⟨t, ht, hs⟩ := hb cdv A outer s H E hr
    refine ⟨t, ht, ?_⟩
    have e : vs.length = ps.length := by rw [← al.len, hl]
    refine hs i F s' _ H Q hi L okW ?_ kq ke
    unfold L2.start
    rw [e]
    exact Fr.start al
end
end Fo
set_option Elab.async false
set_option linter.all false
set_option maxRecDepth 100000
set_option maxHeartbeats 1000000
namespace Fo
open PySem PySem.Spec PyProof.Rows L2
local macro_rules | `(tactic| walk_at "ev") => `(tactic| first
  | ((with_reducible apply EV.var); rfl)
  | (with_reducible exact EV.cst)
  | (with_reducible exact EVA.nil)
  | (with_reducible exact EVO.none)
  | ((with_reducible apply EVO.some); (· walk_at "ev"))
  | ((with_reducible apply EVA.cons); (· walk_at "ev"); (· walk_at "ev"))
  | ((with_reducible apply EV.op); (· walk_at "ev"); (· walk_at "ev"); (· walk_at "rv"))
  | ((with_reducible apply EV.un); (· walk_at "ev"); (· exact RU.neg))
  | ((with_reducible apply EV.chain); (· walk_at "ev"); (· walk_at "ev"); (· walk_at "rv"); (· walk_at "ev"); (· walk_at "rv"))
  | ((with_reducible apply EV.cb); (· walk_at "ev"); (· walk_at "rv"))
  | ((with_reducible apply EV.bits); (· walk_at "ev"))
  | ((with_reducible apply EV.slT); (· walk_at "ev"); (· walk_at "ev"); (· walk_at "ev"))
  | ((with_reducible apply EV.isN); (· walk_at "ev"))
  | ((with_reducible apply EV.notN); (· walk_at "ev"))
  | ((with_reducible apply EV.notV); (· walk_at "ev"))
  | ((with_reducible apply EV.andV); (· walk_at "ev"); (· intro _; walk_at "ev"))
  | ((with_reducible apply EVT.test); (· walk_at "ev"))
  | ((with_reducible apply EVT.B); (· walk_at "ev"))
  | ((with_reducible apply EVT.not); (· walk_at "ev"))
  | ((with_reducible apply EV.tup); (· walk_at "ev"); (· decide))
  | ((with_reducible apply EV.lst); (· walk_at "ev"); (· decide))
  | ((with_reducible apply EVI.list); (· walk_at "ev"))
  | ((with_reducible apply EVI.tup); (· walk_at "ev"))
  | ((with_reducible apply EVI.enum); (· walk_at "ev"))
  | ((with_reducible apply EVI.enumT); (· walk_at "ev"))
  | ((with_reducible apply EVI.zipT); (· walk_at "ev"); (· walk_at "ev")))
local macro_rules | `(tactic| walk_at "rv") => `(tactic| first
  | exact RV.I0
  | exact RV.oneShl (by decide)
  | exact RV.shrN
  | exact RV.odd
  | exact RC.isi_ii
  | exact RC.isi_ib
  | exact RC.isi_tt
  | exact RC.isi_ss
  | exact RC.lenT
  | exact RC.lenL
  | exact RC.sumF
  | exact RC.allF
  | exact RV.inTN
  | exact RV.inLN
  | exact RV.inTO
  | exact RC.tupOf
  | exact RC.lstOfT
  | exact RC.lstOfL
  | exact RC.int
  | exact RC.intB
  | exact RC.abs
  | exact RV.Eq rfl
  | exact RV.Ne rfl)
/-! ## Draw: what changes it -/
section
variable {P : Program} {w : World} {K : PySem.W.Frag} {mg : Str → Option Value} {base : Heap}
abbrev aD {α : Type} (i : Addr × Addr × α) : List Addr := [i.1, i.2.1]
abbrev cD (T : Tp K mg) {α : Type} (i : Addr × Addr × α) : DSt → Hp → Hp → Prop := DrAt T i.1 i.2.1
abbrev sp_change (T : Tp K mg) : Sp := mSp (S := DSt) (aD (α := St3)) (cD T) (fun i => [Ty.is (.ref i.1), tTab T i.2.2.1, tStand i.2.2.2.1, tHist i.2.2.2.2]) (fun _ s => s.2.length ≤ 900) (fun i s => (i.2.2, s.2 ++ [s.1])) (fun _ _ => tNon)
theorem ok_Draw_change (T : Tp K mg) : FnOk P w K mg base CX0 1 T.Draw_change.a T.Draw_change.fd p_Draw_change (sp_change T) :=
  m_ok T.Draw_change.F sc_Draw_change (fun _ => rfl) fun cdv A outer s H E hr => by
    have nd := sc_Draw_change.nd
    refine ⟨_, (pss_cons (ps_expr (pe_bm PySem.F.plainAttrs_list PySem.F.slot_list_append PySem.F.type_list_append mt_append (pe_fld (pv 0) rfl) (pa_cons (pe_fld (pv 0) rfl) pa_nil))) (pss_one (ps_fld (pv 0) (pe_tup (pa_cons (pv 1) (pa_cons (pv 2) (pa_cons (pv 3) pa_nil)))) rfl))), fun i F s σ H Q hi L ok fr kq => ?_⟩
    obtain ⟨a, pl, st⟩ := i
    have hi : s.2.length ≤ 900 := hi
    have L : Lens F [a, pl] (DrAt T a pl) := L
    refine run_seq (run_dropQ (run_bm (EV.past L.has (EV.var (i := 0) rfl)) ok fr fun H1 s1 fr1 => ?_))
    obtain ⟨dx1, nv1, pv1, c1, c2, c3, c4⟩ := L.at s1.2
    refine ⟨.inl ⟨rfl, _, SqL.of c3⟩, run_args (EVA.cons (EV.now L.has (EV.var (i := 0) rfl)) EVA.nil) s1.2 fr1 fun nvs H2 s2 p2 fr2 => ?_⟩
    obtain ⟨nv, rfl, p2⟩ := al1 p2
    obtain ⟨dx, nv2, pv, e1, e2, e3, e4⟩ := L.at s2.2
    have hne : a ≠ pl := fun z => by rw [z, e3] at e1; cases e1
    have hl : pv.length = s.2.length := by rw [← e4.len, List.length_map]
    refine ⟨pl, pv, nv, rfl, rfl, e3, szlt (by omega), ?_⟩
    obtain ⟨ok3, v3⟩ := L.write (s := s) (s' := (s.1, s.2 ++ [s.1])) (H := H2) (H' := upd H2 pl (.lst (pv ++ [nv]))) s2.2 (fun x hx => upd_ne fun z => hx (by rw [z]; simp)) ⟨dx, nv2, pv ++ [nv], by rw [upd_ne hne]; exact e1, e2, upd_same, by rw [List.map_append]; exact e4.app p2⟩
    have fr3 := fr2
    rw [← v3] at fr3
    refine run_fldQ (run_ev (EV.tup (EVA.cons (EV.var (i := 1) rfl) (EVA.cons (EV.var (i := 2) rfl) (EVA.cons (EV.var (i := 3) rfl) EVA.nil))) (by show 3 ≤ 1000; decide)) ok3 fr3 fun tv H4 s4 p4 fr4 => ?_)
    refine run_ev (EV.var (T := Ty.is (.ref a)) (i := 0) rfl) s4.2 fr4 fun v0 H5 s5 p5 _ => ?_
    cases p5
    obtain ⟨dx, nv3, pv3, f1, f2, f3, f4⟩ := L.at s5.2
    refine ⟨a, _, dx, _, rfl, f1, T.Draw.cl, T.Draw.na _ (by decide +kernel), by show 2 < 1000; decide, ?_⟩
    have hp : putF "now" tv [("now", nv3), ("past", .ref pl)] = ([("now", tv), ("past", .ref pl)] : List (Str × V)) := if_pos rfl
    rw [hp]
    obtain ⟨ok6, v6⟩ := L.write (s := (s.1, s.2 ++ [s.1])) (s' := (st, s.2 ++ [s.1])) (H := H5) (H' := upd H5 a (.ins T.Draw.C dx [("now", tv), ("past", .ref pl)])) s5.2 (fun x hx => upd_ne fun z => hx (by rw [z]; simp)) ⟨dx, tv, pv3, upd_same, (tTrip T st).mo s5.1 p4, by rw [upd_ne hne.symm]; exact f3, f4⟩
    refine kq .non _ ok6 ?_ rfl
    show Xt _ ((F (st, s.2 ++ [s.1])).v _)
    rw [v6]
    refine Xt.trans ?_ (s4.trans s5).1
    rw [v3]
    exact (s1.trans s2).1
def lastOr (s : DSt) : St3 := s.2.getLast?.getD s.1
abbrev sp_back (T : Tp K mg) : Sp := mSp (S := DSt) (aD (α := Unit)) (cD T) (fun i => [Ty.is (.ref i.1)]) (fun _ s => s.2 ≠ []) (fun i s => (lastOr s, s.2.dropLast)) (fun _ _ => tNon)
theorem ok_Draw_back (T : Tp K mg) : FnOk P w K mg base CX0 1 T.Draw_back.a T.Draw_back.fd p_Draw_back (sp_back T) :=
  m_ok T.Draw_back.F sc_Draw_back (fun _ => rfl) fun cdv A outer s H E hr => by
    have nd := sc_Draw_back.nd
    refine ⟨_, (pss_cons (ps_if (pt_cmpR op_eq (pe_callB call_len_seq (by rfl) T.b_len PySem.boot_len (pa_cons (pe_fld (pv 0) rfl) pa_nil)) pe_int (nomark _)) (pss_one ps_never) pss_nil) (pss_one (ps_fld (pv 0) (pe_bm0 PySem.F.plainAttrs_list PySem.F.slot_list_pop PySem.F.type_list_pop mt_pop (pe_fld (pv 0) rfl)) rfl))), fun i F s σ H Q hi L ok fr kq => ?_⟩
    obtain ⟨a, pl, u⟩ := i
    have hi : s.2 ≠ [] := hi
    have hlen : 0 < s.2.length := List.length_pos_iff.mpr hi
    have L : Lens F [a, pl] (DrAt T a pl) := L
    refine run_ifb (b := false) (EVT.eq (EVT.B (EV.op (EV.lenPast L.has (EV.var rfl)) EV.cst (RV.Eq rfl))) ?_) ok fr (fun h => by cases h) fun _ H1 s1 fr1 => run_next ?_
    · refine decide_eq_false fun z => ?_
      injection z with z
      omega
    refine run_fldQ (run_bm0 (EV.past L.has (EV.var (i := 0) rfl)) s1.2 fr1 fun H2 s2 fr2 => ?_)
    obtain ⟨dx, nv, pv, e1, e2, e3, e4⟩ := L.at s2.2
    have hne : a ≠ pl := fun z => by rw [z, e3] at e1; cases e1
    have hl : pv.length = s.2.length := by rw [← e4.len, List.length_map]
    have hlast : s.2[s.2.length - 1]? = some (lastOr s) := by
      unfold lastOr
      rw [List.getLast?_eq_getElem?, List.getElem?_eq_getElem (by omega)]
      rfl
    obtain ⟨z, hz, pz⟩ := e4.get (i := s.2.length - 1) (t := tTrip T (lastOr s)) (by rw [List.getElem?_map, hlast]; rfl)
    refine ⟨.inl ⟨rfl, _, SqL.of e3⟩, pl, pv, z, rfl, rfl, e3, by rw [hl]; exact hz, ?_⟩
    have ed : pv.dropLast = pv.take (s.2.length - 1) := by rw [List.dropLast_eq_take, hl]
    have ed2 : s.2.dropLast = s.2.take (s.2.length - 1) := List.dropLast_eq_take
    obtain ⟨ok3, v3⟩ := L.write (s := s) (s' := (s.1, s.2.dropLast)) (H := H2) (H' := upd H2 pl (.lst pv.dropLast)) s2.2 (fun x hx => upd_ne fun z => hx (by rw [z]; simp)) ⟨dx, nv, pv.dropLast, by rw [upd_ne hne]; exact e1, e2, upd_same, by rw [ed, ed2, List.map_take]; exact e4.take _⟩
    refine run_ev (EV.var (W := F (s.1, s.2.dropLast)) (T := Ty.is (.ref a)) (i := 0) rfl) ok3 (by rw [v3]; exact fr2) fun v0 H5 s5 p5 _ => ?_
    cases p5
    obtain ⟨dx, nv3, pv3, f1, f2, f3, f4⟩ := L.at s5.2
    refine ⟨a, _, dx, _, rfl, f1, T.Draw.cl, T.Draw.na _ (by decide +kernel), by show 2 < 1000; decide, ?_⟩
    have hp : putF "now" z [("now", nv3), ("past", .ref pl)] = ([("now", z), ("past", .ref pl)] : List (Str × V)) := if_pos rfl
    rw [hp]
    obtain ⟨ok6, v6⟩ := L.write (s := (s.1, s.2.dropLast)) (s' := (lastOr s, s.2.dropLast)) (H := H5) (H' := upd H5 a (.ins T.Draw.C dx [("now", z), ("past", .ref pl)])) s5.2 (fun x hx => upd_ne fun z => hx (by rw [z]; simp)) ⟨dx, z, pv3, upd_same, (tTrip T (lastOr s)).mo s5.1 (by rw [v3]; exact pz), by rw [upd_ne hne.symm]; exact f3, f4⟩
    refine kq .non _ ok6 ?_ rfl
    show Xt _ ((F (lastOr s, s.2.dropLast)).v _)
    rw [v6]
    refine Xt.trans ?_ s5.1
    rw [v3]
    exact (s1.trans s2).1
def drawS (s : St3) (c : Bool × Nat) (k : Nat) : St3 := (s.1, s.2.1.set (pairOf c k).1 (some (pairOf c k).2), s.2.2 ++ [pairOf c k])
theorem chs_lt {s : St3} (h : Sok s) {c : Bool × Nat} {k : Nat} (hc : c ∈ waiting s.2.1) (hk : k ∈ chs s c) : k < s.1.length := by
  have hl := h.lt hc
  unfold chs at hk
  split at hk
  · unfold opn at hk
    exact (h.1.2.2 _ (h.1.row hl)).2 k (List.mem_filter.mp (List.mem_filter.mp hk).1).1
  · unfold opr at hk
    exact List.mem_range.mp (List.mem_filter.mp (List.mem_filter.mp hk).1).1
abbrev sp_draw (T : Tp K mg) : Sp := mSp (S := DSt) (aD (α := (Bool × Nat) × Nat)) (cD T) (fun i => [Ty.is (.ref i.1), tComer i.2.2.1, tN i.2.2.2]) (fun i s => Sok s.1 ∧ i.2.2.1 ∈ waiting s.1.2.1 ∧ i.2.2.2 ∈ chs s.1 i.2.2.1 ∧ s.2.length ≤ 900 ∧ s.1.2.2.length ≤ 900) (fun i s => (drawS s.1 i.2.2.1 i.2.2.2, s.2 ++ [s.1])) (fun _ _ => tNon)
theorem ok_Draw_draw (T : Tp K mg) : FnOk P w K mg base CX0 10 T.Draw_draw.a T.Draw_draw.fd p_Draw_draw (sp_draw T) :=
  m_ok T.Draw_draw.F sc_Draw_draw (fun _ => rfl) fun cdv A outer s H E hr => by
    have nd := sc_Draw_draw.nd
    refine ⟨_, (pss_cons (ps_expr (pe_meth (pv 0) T.Draw.cl T.Draw_check_comer.mt (ok_Draw_check_comer T) (hr.mono (by first | decide | omega)) T.Draw_check_comer.b .nil pass0 (pa_cons (pv 1) pa_nil))) (pss_cons (ps_asg (pe_fld (pv 0) rfl) (pg_tup (by rfl) (pgs_cons (pg_name (i := 3) nd rfl (Or.inl rfl)) (pgs_cons (pg_name (i := 4) nd rfl (Or.inl rfl)) (pgs_cons (pg_name (i := 5) nd rfl (Or.inl rfl)) pgs_nil))))) (pss_cons (ps_if (PW.pt (pw_or (pt_not (pt_val (pe_call (ok_is_person T) (hr.mono (by first | decide | omega)) rfl T.is_person.m T.is_person.F.kp T.is_person.b .nil pass0 (pa_cons (pv 3) (pa_cons (pv 2) pa_nil))))) (pw_or1 (pt_cmpR op_notIn_seq (pv 2) (pe_meth (pv 0) T.Draw.cl T.Draw_choices.mt (ok_Draw_choices T) (hr.mono (by first | decide | omega)) T.Draw_choices.b .nil pass0 (pa_cons (pv 1) pa_nil)) rfl)))) (pss_one ps_never) pss_nil) (pss_cons (ps_set (i := 6) nd rfl (Or.inl rfl) (pe_ifExp (pt_cmpR op_eq (pe_ix ix_tup (pv 1) pe_int (fun _ _ => rfl)) pe_str (nomark _)) (pe_tup (pa_cons (pe_ix ix_tup (pv 1) pe_int (fun _ _ => rfl)) (pa_cons (pv 2) pa_nil))) (pe_tup (pa_cons (pv 2) (pa_cons (pe_ix ix_tup (pv 1) pe_int (fun _ _ => rfl)) pa_nil))))) (pss_one (ps_expr (pe_meth (pv 0) T.Draw.cl T.Draw_change.mt (ok_Draw_change T) (hr.mono (by first | decide | omega)) T.Draw_change.b .nil pass0 (pa_cons (pv 3) (pa_cons (pe_call (ok_drawn_by T) (hr.mono (by first | decide | omega)) rfl T.drawn_by.m T.drawn_by.F.kp T.drawn_by.b .nil pass0 (pa_cons (pv 4) (pa_cons (pv 1) (pa_cons (pv 2) pa_nil)))) (pa_cons (pe_op op_catA (pv 5) (pe_tup (pa_cons (pv 6) pa_nil))) pa_nil)))))))))), fun i F s σ H Q hi L ok fr kq => ?_⟩
    obtain ⟨a, pl, c, k⟩ := i
    obtain ⟨hs, hc, hk, h9, hh⟩ := hi
    have hs : Sok s.1 := hs
    have hc : c ∈ waiting s.1.2.1 := hc
    have hk : k ∈ chs s.1 c := hk
    have h9 : s.2.length ≤ 900 := h9
    have hh : s.1.2.2.length ≤ 900 := hh
    have L : Lens F [a, pl] (DrAt T a pl) := L
    have hkl := chs_lt hs hc hk
    have hcl := hs.lt hc
    have hd : HasD T a pl s (F s) := L.has
    refine run_drop (EV.methG (a, pl, s, c) ⟨hd, hs, hc⟩ (EV.var rfl) (hd.ins (by decide +kernel)) (by walk_at "ev")) ok fr fun H1 s1 fr1 => ?_
    refine run_asg3 (EV.now hd (EV.var rfl)) s1.2 fr1 fun σ2 H2 s2 fr2 => ?_
    refine run_ifb (b := false) (EVT.eq (EVT.or (EVT.not (EVT.B (EV.call (s.1.1, (k : Int)) (by walk_at "ev") trivial))) fun _ => EVT.B (EV.op (EV.var rfl) (EV.eq (EVN.ev (EVN.methG (a, pl, s, c) ⟨hd, hs, hc⟩ (EV.var rfl) (hd.ins (by decide +kernel)) (by walk_at "ev"))) rfl) RV.inLN)) ?_) s2.2 fr2 (fun h => by cases h) fun _ H3 s3 fr3 => run_next ?_
    · rw [Bool.or_eq_false_iff]
      refine ⟨?_, notF hk⟩
      simp
      omega
    refine run_asg (T := tPair (pairOf c k)) (EV.if_ (EVT.isP (c := c) rfl) (fun h => ?_) (fun h => ?_)) s3.2 fr3 fun v4 H4 s4 p4 fr4 => ?_
    · have e : pairOf c k = (c.2, k) := if_pos h
      rw [e]
      exact EV.tup (EVA.cons (EV.num (c := c) rfl) (EVA.cons (EV.var rfl) EVA.nil)) (by show 2 ≤ 1000; decide)
    · have e : pairOf c k = (k, c.2) := if_neg (by rw [h]; simp)
      rw [e]
      exact EV.tup (EVA.cons (EV.var rfl) (EVA.cons (EV.num (c := c) rfl) EVA.nil)) (by show 2 ≤ 1000; decide)
    have hp1 : (pairOf c k).1 < s.1.2.1.length := by
      rw [hs.2.1]
      unfold pairOf
      split
      · exact hcl
      · exact hkl
    refine run_methM (a, pl, drawS s.1 c k) L h9 s4.2 fr4 (EV.var rfl) (hd.ins (by decide +kernel)) (ts := [tTab T s.1.1, tStand (s.1.2.1.set (pairOf c k).1 (some (pairOf c k).2)), tHist (s.1.2.2 ++ [pairOf c k])]) (EVA.cons (EV.var rfl) (EVA.cons (EV.call (s.1.2.1, c, k) (by walk_at "ev") ⟨hs.l4, hp1⟩) (EVA.cons (EV.eq (EV.op (EV.var rfl) (EV.tup (EVA.cons (EV.var rfl) EVA.nil) (by show 1 ≤ 1000; decide)) (RV.catT ?_)) ?_) EVA.nil))) fun v H' o x r => kq .non H' o ((((s1.trans s2).trans s3).trans s4).1.trans x) rfl
    · rw [List.length_map]; show s.1.2.2.length + 1 ≤ 1000; omega
    · show Ty.tup _ = Ty.tup _
      rw [List.map_append]; rfl
end
end Fo
set_option Elab.async false
set_option linter.all false
set_option maxRecDepth 100000
set_option maxHeartbeats 1000000
namespace Fo
open PySem PySem.Spec PyProof.Rows L2
local macro_rules | `(tactic| walk_at "ev") => `(tactic| first
  | ((with_reducible apply EV.var); rfl)
  | (with_reducible exact EV.cst)
  | (with_reducible exact EVA.nil)
  | (with_reducible exact EVO.none)
  | ((with_reducible apply EVO.some); (· walk_at "ev"))
  | ((with_reducible apply EVA.cons); (· walk_at "ev"); (· walk_at "ev"))
  | ((with_reducible apply EV.op); (· walk_at "ev"); (· walk_at "ev"); (· walk_at "rv"))
  | ((with_reducible apply EV.un); (· walk_at "ev"); (· exact RU.neg))
  | ((with_reducible apply EV.chain); (· walk_at "ev"); (· walk_at "ev"); (· walk_at "rv"); (· walk_at "ev"); (· walk_at "rv"))
  | ((with_reducible apply EV.cb); (· walk_at "ev"); (· walk_at "rv"))
  | ((with_reducible apply EV.bits); (· walk_at "ev"))
  | ((with_reducible apply EV.slT); (· walk_at "ev"); (· walk_at "ev"); (· walk_at "ev"))
  | ((with_reducible apply EV.isN); (· walk_at "ev"))
  | ((with_reducible apply EV.notN); (· walk_at "ev"))
  | ((with_reducible apply EV.notV); (· walk_at "ev"))
  | ((with_reducible apply EV.andV); (· walk_at "ev"); (· intro _; walk_at "ev"))
  | ((with_reducible apply EVT.test); (· walk_at "ev"))
  | ((with_reducible apply EVT.B); (· walk_at "ev"))
  | ((with_reducible apply EVT.not); (· walk_at "ev"))
  | ((with_reducible apply EV.tup); (· walk_at "ev"); (· decide))
  | ((with_reducible apply EV.lst); (· walk_at "ev"); (· decide))
  | ((with_reducible apply EVI.list); (· walk_at "ev"))
  | ((with_reducible apply EVI.tup); (· walk_at "ev"))
  | ((with_reducible apply EVI.enum); (· walk_at "ev"))
  | ((with_reducible apply EVI.enumT); (· walk_at "ev"))
  | ((with_reducible apply EVI.zipT); (· walk_at "ev"); (· walk_at "ev")))
local macro_rules | `(tactic| walk_at "rv") => `(tactic| first
  | exact RV.I0
  | exact RV.oneShl (by decide)
  | exact RV.shrN
  | exact RV.odd
  | exact RC.isi_ii
  | exact RC.isi_ib
  | exact RC.isi_tt
  | exact RC.isi_ss
  | exact RC.lenT
  | exact RC.lenL
  | exact RC.sumF
  | exact RC.allF
  | exact RV.inTN
  | exact RV.inLN
  | exact RV.inTO
  | exact RC.tupOf
  | exact RC.lstOfT
  | exact RC.lstOfL
  | exact RC.int
  | exact RC.intB
  | exact RC.abs
  | exact RV.Eq rfl
  | exact RV.Ne rfl)
/-! ## Draw.strike, Draw.allow -/
theorem RowsOk.set {R : List (List Nat)} (h : RowsOk R) {p : Nat} {r : List Nat} (h1 : r.Pairwise (· < ·)) (h2 : ∀ x ∈ r, x < R.length) : RowsOk (R.set p r) := by
  obtain ⟨a, b, c⟩ := h
  refine ⟨by rw [List.length_set]; exact a, by rw [List.length_set]; exact b, fun q hq => ?_⟩
  rw [List.length_set]
  rcases List.mem_or_eq_of_mem_set hq with hq | e
  · exact c q hq
  · rw [e]; exact ⟨h1, h2⟩
def cutR (r : List Nat) (x : Nat) : List Nat := r.filter fun y => !decide (y = x)
theorem RowsOk.cut {R : List (List Nat)} (h : RowsOk R) {p x : Nat} (hp : p < R.length) : RowsOk (R.set p (cutR (R.getD p []) x)) :=
  h.set ((h.2.2 _ (h.row hp)).1.sublist List.filter_sublist) fun y hy => (h.2.2 _ (h.row hp)).2 y (List.mem_filter.mp hy).1
theorem RowsOk.ins {R : List (List Nat)} (h : RowsOk R) {p x : Nat} (hp : p < R.length) (hx : x < R.length) : RowsOk (R.set p (insR (R.getD p []) x)) :=
  h.set (ins_asc (h.2.2 _ (h.row hp)).1) fun y hy => (ins_mem.mp hy).elim (fun e => e ▸ hx) fun z => (h.2.2 _ (h.row hp)).2 y z
def strikeR (s : St3) (p x : Nat) : Option St3 :=
  if x ∉ s.1.getD p [] ∨ s.2.1.getD p none = some x then none
  else if cntL (s.1.set p (cutR (s.1.getD p []) x)) (und s.2.1) (unu s.2.1) = 0 then none else some (s.1.set p (cutR (s.1.getD p []) x), s.2)
def allowR (s : St3) (p x : Nat) : Option St3 := if x ∈ s.1.getD p [] then none else some (s.1.set p (insR (s.1.getD p []) x), s.2)
section
variable {P : Program} {w : World} {K : PySem.W.Frag} {mg : Str → Option Value} {base : Heap}
abbrev sp_deed (T : Tp K mg) (f : St3 → Nat → Nat → Option St3) : Sp := xSp (S := DSt) T.NO (aD (α := Nat × Nat)) (cD T) (fun i => [Ty.is (.ref i.1), tN i.2.2.1, tN i.2.2.2]) (fun i s => Sok s.1 ∧ i.2.2.1 < s.1.1.length ∧ i.2.2.2 < s.1.1.length ∧ s.2.length ≤ 900) (fun i s => (f s.1 i.2.2.1 i.2.2.2).map fun t => (t, s.2 ++ [s.1]))
theorem oV_eq (o : Option Nat) (x : Nat) : decide (oV o = nV x) = decide (o = some x) := by
  cases o with
  | none => exact (decide_eq_false (fun e => nomatch e)).trans (decide_eq_false (fun e => nomatch e)).symm
  | some y =>
    show decide (nV y = nV x) = _
    have := ne_n y x
    by_cases h : y = x
    · subst h; rw [decide_eq_true rfl, decide_eq_true rfl]
    · rw [decide_eq_false h] at this
      rw [decide_eq_false (fun e => h (by injection e with e; omega)), decide_eq_false (fun e => h (Option.some.inj e))]
theorem oV_scal (o : Option Nat) (x : Nat) : scal (oV o) (nV x) = true := by cases o <;> rfl
theorem eq0 (n : Nat) : decide (nV n = .int 0) = decide (n = 0) := by
  by_cases h : n = 0
  · subst h; rfl
  · rw [decide_eq_false h, decide_eq_false (fun e => h (by injection e with e; omega))]
theorem ok_Draw_strike (T : Tp K mg) : FnOk P w K mg base (L2.CX P w) 10 T.Draw_strike.a T.Draw_strike.fd p_Draw_strike (sp_deed T strikeR) :=
  x_ok T.Draw_strike.F sc_Draw_strike (fun _ => rfl) fun cdv A outer s H E hr => by
    have nd := sc_Draw_strike.nd
    refine ⟨_, (pss_cons (ps_asg (pe_fld (pv 0) rfl) (pg_tup (by rfl) (pgs_cons (pg_name (i := 3) nd rfl (Or.inl rfl)) (pgs_cons (pg_name (i := 4) nd rfl (Or.inl rfl)) (pgs_cons (pg_name (i := 5) nd rfl (Or.inl rfl)) pgs_nil))))) (pss_cons (ps_expr (pe_call (ok_check_pair T) (hr.mono (by first | decide | omega)) rfl T.check_pair.m T.check_pair.F.kp T.check_pair.b .nil pass0 (pa_cons (pv 3) (pa_cons (pv 1) (pa_cons (pv 2) pa_nil))))) (pss_cons (ps_set (i := 6) nd rfl (Or.inl rfl) (pe_call (ok_without_tie T) (hr.mono (by first | decide | omega)) rfl T.without_tie.m T.without_tie.F.kp T.without_tie.b .nil pass0 (pa_cons (pv 3) (pa_cons (pv 1) (pa_cons (pv 2) pa_nil))))) (pss_cons (ps_if (PW.pt (pw_or (pt_cmpR op_notIn_seq (pv 2) (pe_ix ix_tup (pe_fld (pv 3) rfl) (pv 1) (fun _ _ => rfl)) rfl) (pw_or1 (pt_cmpR op_eq (pe_ix ix_tup (pv 4) (pv 1) (fun _ _ => rfl)) (pv 2) (nomark _))))) (pss_one (ps_raise rfl (takes_of rfl rfl rfl rfl) (pmk_own0 PySem.F.excBase_ValueError T.xNO T.mNO T.kNO (raises_own T.bNO T.tNO) (by exact rfl)))) pss_nil) (pss_cons (ps_if (pt_cmpR op_eq (pe_call (ok_many_behind T) (hr.mono (by first | decide | omega)) rfl T.many_behind.m T.many_behind.F.kp T.many_behind.b .nil pass0 (pa_cons (pe_make T.Counter.mkk (ok_Counter_init T) (hr.mono (by first | decide | omega)) rfl T.Counter.m T.Counter.b .nil pass0 (pa_cons (pe_fld (pv 6) rfl) pa_nil)) (pa_cons (pv 4) pa_nil))) pe_int (nomark _)) (pss_one (ps_raise rfl (takes_of rfl rfl rfl rfl) (pmk_own0 PySem.F.excBase_ValueError T.xNO T.mNO T.kNO (raises_own T.bNO T.tNO) (by exact rfl)))) pss_nil) (pss_one (ps_expr (pe_meth (pv 0) T.Draw.cl T.Draw_change.mt (ok_Draw_change T) (hr.mono (by first | decide | omega)) T.Draw_change.b .nil pass0 (pa_cons (pv 6) (pa_cons (pv 4) (pa_cons (pv 5) pa_nil))))))))))), fun i F s σ H Q hi L ok fr kq ke => ?_⟩
    obtain ⟨a, pl, p, x⟩ := i
    obtain ⟨hs, hp, hx, h9⟩ := hi
    have hs : Sok s.1 := hs
    have hp : p < s.1.1.length := hp
    have hx : x < s.1.1.length := hx
    have h9 : s.2.length ≤ 900 := h9
    have L : Lens F [a, pl] (DrAt T a pl) := L
    have hd : HasD T a pl s (F s) := L.has
    have hpS : p < s.1.2.1.length := by rw [hs.2.1]; exact hp
    refine run_asg3 (EV.now hd (EV.var rfl)) ok fr fun σ1 H1 s1 fr1 => ?_
    refine run_drop (EV.call (s.1.1, p, x) (by walk_at "ev") ⟨hp, hx⟩) s1.2 fr1 fun H2 s2 fr2 => ?_
    refine run_asg (EV.call (s.1.1, p, x) (by walk_at "ev") ⟨hs.1, hp, hx⟩) s2.2 fr2 fun v3 H3 s3 p3 fr3 => ?_
    have s13 := (s1.trans s2).trans s3
    let R' := s.1.1.set p (cutR (s.1.1.getD p []) x)
    have hR' : RowsOk R' := hs.1.cut hp
    have hS' : StOk R'.length s.1.2.1 := by
      show StOk (s.1.1.set p _).length s.1.2.1
      rw [List.length_set]; exact hs.2
    refine run_ifb (b := decide (x ∉ s.1.1.getD p [] ∨ s.1.2.1.getD p none = some x)) (EVT.eq (EVT.or (EVT.B (EV.op (EV.var rfl) (EV.ixT (EV.fld (EV.var rfl) (has_rows T s.1.1)) (EV.var rfl) rfl (by rw [List.getElem?_map, getD_some (z := ([] : List Nat)) hp]; rfl)) RV.inTN)) fun _ => EVT.B (EV.op (EV.ixT (EV.var rfl) (EV.var rfl) rfl (by rw [List.getElem?_map, getD_some (z := none) hpS]; rfl)) (EV.var rfl) (RV.Eq (oV_scal _ _)))) ?_) s13.2 fr3 (fun h H4 s4 fr4 => ?_) (fun h H4 s4 fr4 => run_next ?_)
    · show (!decide (x ∈ s.1.1.getD p []) || decide (oV (s.1.2.1.getD p none) = nV x)) = _
      rw [oV_eq, Bool.decide_or, decide_not]
    · have h := of_decide_eq_true h
      refine ke ?_ H4 (s13.trans s4)
      show Option.map _ (strikeR s.1 p x) = none
      rw [strikeR, if_pos h]; rfl
    have h := of_decide_eq_false h
    refine run_ifb (b := decide (cntL R' (und s.1.2.1) (unu s.1.2.1) = 0)) (EVT.eq (EVT.B (EV.op (EV.withCnt (T := T) (R := R') (R', s.1.2.1) [_] (EV.fld (EV.var rfl) (has_rows T R')) hR'.2.1 rfl (fun d hd' => EVA.cons (EV.var rfl) EVA.nil) ⟨hR', hS'⟩) EV.cst (RV.Eq rfl))) (eq0 _)) s4.2 fr4 (fun h2 H5 s5 fr5 => ?_) (fun h2 H5 s5 fr5 => run_next ?_)
    · have h2 := of_decide_eq_true h2
      refine ke ?_ H5 ((s13.trans s4).trans s5)
      show Option.map _ (strikeR s.1 p x) = none
      rw [strikeR, if_neg h, if_pos h2]; rfl
    · have h2 := of_decide_eq_false h2
      refine run_dropQ (run_methM (a, pl, (R', s.1.2)) L h9 s5.2 fr5 (EV.var rfl) (hd.ins (by decide +kernel)) (by walk_at "ev") fun v H' o x' r => ?_)
      refine kq ((R', s.1.2), s.2 ++ [s.1]) ?_ H' o ((((s13.trans s4).trans s5).1).trans x')
      show Option.map _ (strikeR s.1 p x) = _
      rw [strikeR, if_neg h, if_neg h2]; rfl
theorem ok_Draw_allow (T : Tp K mg) : FnOk P w K mg base (L2.CX P w) 10 T.Draw_allow.a T.Draw_allow.fd p_Draw_allow (sp_deed T allowR) :=
  x_ok T.Draw_allow.F sc_Draw_allow (fun _ => rfl) fun cdv A outer s H E hr => by
    have nd := sc_Draw_allow.nd
    refine ⟨_, (pss_cons (ps_asg (pe_fld (pv 0) rfl) (pg_tup (by rfl) (pgs_cons (pg_name (i := 3) nd rfl (Or.inl rfl)) (pgs_cons (pg_name (i := 4) nd rfl (Or.inl rfl)) (pgs_cons (pg_name (i := 5) nd rfl (Or.inl rfl)) pgs_nil))))) (pss_cons (ps_expr (pe_call (ok_check_pair T) (hr.mono (by first | decide | omega)) rfl T.check_pair.m T.check_pair.F.kp T.check_pair.b .nil pass0 (pa_cons (pv 3) (pa_cons (pv 1) (pa_cons (pv 2) pa_nil))))) (pss_cons (ps_if (pt_cmpR op_in_seq (pv 2) (pe_ix ix_tup (pe_fld (pv 3) rfl) (pv 1) (fun _ _ => rfl)) rfl) (pss_one (ps_raise rfl (takes_of rfl rfl rfl rfl) (pmk_own0 PySem.F.excBase_ValueError T.xNO T.mNO T.kNO (raises_own T.bNO T.tNO) (by exact rfl)))) pss_nil) (pss_one (ps_expr (pe_meth (pv 0) T.Draw.cl T.Draw_change.mt (ok_Draw_change T) (hr.mono (by first | decide | omega)) T.Draw_change.b .nil pass0 (pa_cons (pe_call (ok_with_tie T) (hr.mono (by first | decide | omega)) rfl T.with_tie.m T.with_tie.F.kp T.with_tie.b .nil pass0 (pa_cons (pv 3) (pa_cons (pv 1) (pa_cons (pv 2) pa_nil)))) (pa_cons (pv 4) (pa_cons (pv 5) pa_nil))))))))), fun i F s σ H Q hi L ok fr kq ke => ?_⟩
    obtain ⟨a, pl, p, x⟩ := i
    obtain ⟨hs, hp, hx, h9⟩ := hi
    have hs : Sok s.1 := hs
    have hp : p < s.1.1.length := hp
    have hx : x < s.1.1.length := hx
    have h9 : s.2.length ≤ 900 := h9
    have L : Lens F [a, pl] (DrAt T a pl) := L
    have hd : HasD T a pl s (F s) := L.has
    refine run_asg3 (EV.now hd (EV.var rfl)) ok fr fun σ1 H1 s1 fr1 => ?_
    refine run_drop (EV.call (s.1.1, p, x) (by walk_at "ev") ⟨hp, hx⟩) s1.2 fr1 fun H2 s2 fr2 => ?_
    refine run_ifb (b := decide (x ∈ s.1.1.getD p [])) (EVT.B (EV.op (EV.var rfl) (EV.ixT (EV.fld (EV.var rfl) (has_rows T s.1.1)) (EV.var rfl) rfl (by rw [List.getElem?_map, getD_some (z := ([] : List Nat)) hp]; rfl)) RV.inTN)) s2.2 fr2 (fun h H3 s3 fr3 => ?_) (fun h H3 s3 fr3 => run_next ?_)
    · have h := of_decide_eq_true h
      refine ke ?_ H3 ((s1.trans s2).trans s3)
      show Option.map _ (allowR s.1 p x) = none
      rw [allowR, if_pos h]; rfl
    · have h := of_decide_eq_false h
      refine run_dropQ (run_methM (a, pl, (s.1.1.set p (insR (s.1.1.getD p []) x), s.1.2)) L h9 s3.2 fr3 (EV.var rfl) (hd.ins (by decide +kernel)) (EVA.cons (EV.call (s.1.1, p, x) (by walk_at "ev") ⟨hs.1, hp, hx⟩) (by walk_at "ev")) fun v H' o x' r => ?_)
      refine kq ((s.1.1.set p (insR (s.1.1.getD p []) x), s.1.2), s.2 ++ [s.1]) ?_ H' o ((((s1.trans s2).trans s3).1).trans x')
      show Option.map _ (allowR s.1 p x) = _
      rw [allowR, if_neg h]; rfl
end
end Fo
set_option Elab.async false
set_option linter.all false
/-! The matching, in plain Lean. -/
namespace Fo
/-- of (people's things), owner (things' people) -/
structure MInv (R : List (List Nat)) (f g : Nat → Option Nat) : Prop where
  a : ∀ q t, f q = some t → g t = some q ∧ t ∈ R.getD q [] ∧ q < R.length
  b : ∀ t q, g t = some q → f q = some t
structure HInv (R : List (List Nat)) (f g : Nat → Option Nat) (t : Nat) : Prop where
  a : ∀ q u, f q = some u → u ≠ t ∧ g u = some q ∧ u ∈ R.getD q [] ∧ q < R.length
  b : ∀ u q, g u = some q → u ≠ t → f q = some u
def fput (f : Nat → Option Nat) (k v : Nat) : Nat → Option Nat := fun j => if j = k then some v else f j
theorem fput_same {f : Nat → Option Nat} {k v : Nat} : fput f k v k = some v := if_pos rfl
theorem fput_ne {f : Nat → Option Nat} {k v j : Nat} (h : j ≠ k) : fput f k v j = f j := if_neg h
theorem MInv.start {R : List (List Nat)} {f g : Nat → Option Nat} {t : Nat} (h : MInv R f g) (ht : g t = none) : HInv R f g t where
  a := fun q u e => ⟨(fun z => by subst z; have k := (h.a q u e).1; rw [ht] at k; exact nomatch k), h.a q u e⟩
  b := fun u q e _ => h.b u q e
theorem HInv.step {R : List (List Nat)} {f g : Nat → Option Nat} {t h e : Nat} (I : HInv R f g t) (hf : f h = some e) (ht : t ∈ R.getD h []) : HInv R (fput f h t) (fput g t h) e where
  a := fun q u k => by
    obtain ⟨a1, a2, a3, a4⟩ := I.a h e hf
    by_cases hq : q = h
    · subst hq
      rw [fput_same] at k
      cases k
      exact ⟨fun z => a1 z.symm, fput_same, ht, a4⟩
    · rw [fput_ne hq] at k
      obtain ⟨b1, b2, b3, b4⟩ := I.a q u k
      refine ⟨fun z => ?_, by rw [fput_ne b1]; exact b2, b3, b4⟩
      subst z
      rw [a2] at b2
      exact hq (Option.some.inj b2).symm
  b := fun u q k hu => by
    by_cases ht' : u = t
    · subst ht'
      rw [fput_same] at k
      cases k
      exact fput_same
    · rw [fput_ne ht'] at k
      have k2 := I.b u q k ht'
      rw [fput_ne (fun z => ?_)]
      · exact k2
      · subst z
        rw [hf] at k2
        exact hu (Option.some.inj k2).symm
theorem HInv.last {R : List (List Nat)} {f g : Nat → Option Nat} {t h : Nat} (I : HInv R f g t) (hf : f h = none) (ht : t ∈ R.getD h []) (hl : h < R.length) : MInv R (fput f h t) (fput g t h) where
  a := fun q u k => by
    by_cases hq : q = h
    · subst hq
      rw [fput_same] at k
      cases k
      exact ⟨fput_same, ht, hl⟩
    · rw [fput_ne hq] at k
      obtain ⟨b1, b2, b3, b4⟩ := I.a q u k
      exact ⟨by rw [fput_ne b1]; exact b2, b3, b4⟩
  b := fun u q k => by
    by_cases ht' : u = t
    · subst ht'
      rw [fput_same] at k
      cases k
      exact fput_same
    · rw [fput_ne ht'] at k
      have k2 := I.b u q k ht'
      rw [fput_ne (fun z => ?_)]
      · exact k2
      · subst z
        rw [hf] at k2
        cases k2
/-! ## assoc lists -/
def putN (L : List (Nat × Nat)) (k v : Nat) : List (Nat × Nat) := if k ∈ L.map (·.1) then L.map (fun p => if p.1 = k then (k, v) else p) else L ++ [(k, v)]
theorem lookup_none {L : List (Nat × Nat)} {k : Nat} (h : k ∉ L.map (·.1)) : L.lookup k = none := by
  induction L with
  | nil => rfl
  | cons a L ih =>
    rw [List.map_cons, List.mem_cons, not_or] at h
    obtain ⟨a1, a2⟩ := a
    have e : (k == a1) = false := beq_eq_false_iff_ne.mpr h.1
    simp only [List.lookup, e]
    exact ih h.2
theorem lookup_some {L : List (Nat × Nat)} {k : Nat} (h : k ∈ L.map (·.1)) : ∃ v, L.lookup k = some v := by
  induction L with
  | nil => cases h
  | cons a L ih =>
    obtain ⟨a1, a2⟩ := a
    by_cases e : k = a1
    · subst e; exact ⟨a2, by simp [List.lookup]⟩
    · have e2 : (k == a1) = false := beq_eq_false_iff_ne.mpr e
      rw [List.map_cons, List.mem_cons] at h
      obtain ⟨v, hv⟩ := ih (h.resolve_left e)
      exact ⟨v, by simp only [List.lookup, e2]; exact hv⟩
theorem lookup_putN (L : List (Nat × Nat)) (k v : Nat) : (fun j => (putN L k v).lookup j) = fput (fun j => L.lookup j) k v := by
  funext j
  unfold putN fput
  by_cases h : k ∈ L.map (·.1)
  · rw [if_pos h]
    induction L with
    | nil => cases h
    | cons a L ih =>
      obtain ⟨a1, a2⟩ := a
      by_cases e : a1 = k
      · subst e
        by_cases ej : j = a1
        · subst ej
          simp [List.lookup]
        · have e2 : (j == a1) = false := beq_eq_false_iff_ne.mpr ej
          rw [if_neg ej]
          simp only [List.map_cons, if_true, List.lookup, e2]
          by_cases hm : a1 ∈ L.map (·.1)
          · have := ih hm
            rwa [if_neg ej] at this
          · congr 1
            conv => rhs; rw [← List.map_id L]
            refine List.map_congr_left fun p hp => if_neg fun (z : p.1 = a1) => hm (by rw [← z]; exact List.mem_map_of_mem hp)
      · rw [List.map_cons, List.mem_cons] at h
        have hm := h.resolve_left (fun z => e z.symm)
        have := ih hm
        simp only [List.map_cons, if_neg e, List.lookup]
        by_cases ej : j = a1
        · subst ej
          simp only [beq_self_eq_true]
          rw [if_neg e]
        · have e2 : (j == a1) = false := beq_eq_false_iff_ne.mpr ej
          simp only [e2]
          exact this
  · rw [if_neg h]
    induction L with
    | nil =>
      by_cases ej : j = k
      · subst ej; simp [List.lookup]
      · have e2 : (j == k) = false := beq_eq_false_iff_ne.mpr ej
        simp [List.lookup, e2, ej]
    | cons a L ih =>
      obtain ⟨a1, a2⟩ := a
      rw [List.map_cons, List.mem_cons, not_or] at h
      have := ih h.2
      simp only [List.cons_append, List.lookup]
      by_cases ej : j = a1
      · subst ej
        simp only [beq_self_eq_true]
        rw [if_neg (fun z => h.1 z.symm)]
      · have e2 : (j == a1) = false := beq_eq_false_iff_ne.mpr ej
        simp only [e2]
        exact this
theorem keys_putN (L : List (Nat × Nat)) (k v : Nat) : (putN L k v).map (·.1) = if k ∈ L.map (·.1) then L.map (·.1) else L.map (·.1) ++ [k] := by
  unfold putN
  by_cases h : k ∈ L.map (·.1)
  · rw [if_pos h, if_pos h, List.map_map]
    refine List.map_congr_left fun p _ => ?_
    show (if p.1 = k then (k, v) else p).1 = p.1
    by_cases e : p.1 = k
    · rw [if_pos e]; exact e.symm
    · rw [if_neg e]
  · rw [if_neg h, if_neg h, List.map_append]; rfl
/-- keys: each once, all below n -/
def Ndk (n : Nat) (L : List (Nat × Nat)) : Prop := (L.map (·.1)).Nodup ∧ ∀ k ∈ L.map (·.1), k < n
theorem Ndk.put {n : Nat} {L : List (Nat × Nat)} {k v : Nat} (h : Ndk n L) (hk : k < n) : Ndk n (putN L k v) := by
  unfold Ndk
  rw [keys_putN]
  by_cases hm : k ∈ L.map (·.1)
  · rw [if_pos hm]; exact h
  · rw [if_neg hm]
    refine ⟨List.nodup_append.mpr ⟨h.1, by simp, fun a ha b hb e => ?_⟩, fun j hj => ?_⟩
    · rw [List.mem_singleton] at hb; subst hb; subst e; exact hm ha
    · rcases List.mem_append.mp hj with hj | hj
      · exact h.2 j hj
      · rw [List.mem_singleton] at hj; subst hj; exact hk
theorem nodup_lt {n : Nat} {l : List Nat} (h : l.Nodup) (k : ∀ x ∈ l, x < n) : l.length ≤ n := by
  have : ∀ (l m : List Nat), l.Nodup → (∀ x ∈ l, x ∈ m) → l.length ≤ m.length := by
    intro l
    induction l with
    | nil => intro m _ _; exact Nat.zero_le _
    | cons a l ih =>
      intro m h k
      obtain ⟨h1, h2⟩ := List.nodup_cons.mp h
      have ham := k a List.mem_cons_self
      have i := ih (m.erase a) h2 fun x hx => (List.mem_erase_of_ne (show x ≠ a from fun e => h1 (by rw [← e]; exact hx))).mpr (k x (List.mem_cons_of_mem _ hx))
      rw [List.length_erase_of_mem ham] at i
      have : 0 < m.length := List.length_pos_of_mem ham
      rw [List.length_cons]
      omega
  have e := this l (List.range n) h fun x hx => List.mem_range.mpr (k x hx)
  rwa [List.length_range] at e
theorem Ndk.len {n : Nat} {L : List (Nat × Nat)} (h : Ndk n L) : L.length ≤ n := by
  have := nodup_lt h.1 h.2
  rwa [List.length_map] at this
theorem lookup_mem {L : List (Nat × Nat)} (h : (L.map (·.1)).Nodup) {i : Nat} (hi : i < L.length) : L.lookup L[i].1 = some L[i].2 := by
  induction L generalizing i with
  | nil => cases hi
  | cons a L ih =>
    obtain ⟨a1, a2⟩ := a
    rw [List.map_cons, List.nodup_cons] at h
    cases i with
    | zero => simp [List.lookup]
    | succ i =>
      have hi' : i < L.length := by simpa using hi
      have hne : (L[i].1 == a1) = false := beq_eq_false_iff_ne.mpr fun e => h.1 (by rw [← e]; exact List.mem_map_of_mem (f := (·.1)) (List.getElem_mem hi'))
      simp only [List.getElem_cons_succ, List.lookup, hne]
      exact ih h.2 hi'
end Fo
namespace Fo
/-! ## the walk back along the chain -/
structure Ch (R : List (List Nat)) (p0 : Nat) (vis : List Nat) (cm : List (Nat × Nat)) : Prop where
  nd : (cm.map (·.1)).Nodup
  tie : ∀ c ∈ cm, c.1 ∈ R.getD c.2 []
  par : ∀ i (h : i < cm.length), ∃ j, j ≤ i ∧ vis[j]? = some cm[i].2
  vnd : vis.Nodup
  v0 : vis[0]? = some p0
def FV (f : Nat → Option Nat) (vis : List Nat) (cm : List (Nat × Nat)) (i : Nat) : Prop := ∀ j q, 1 ≤ j → j ≤ i → vis[j]? = some q → ∃ c, cm[j - 1]? = some c ∧ f q = some c.1
theorem nd_at {l : List Nat} (h : l.Nodup) {i j : Nat} {x : Nat} (hi : l[i]? = some x) (hj : l[j]? = some x) : i = j := by
  obtain ⟨a, b⟩ := List.getElem?_eq_some_iff.mp hi
  obtain ⟨c, d⟩ := List.getElem?_eq_some_iff.mp hj
  exact (List.getElem_inj h).mp (b.trans d.symm)
theorem Ch.step {R : List (List Nat)} {p0 : Nat} {vis : List Nat} {cm : List (Nat × Nat)} {f g : Nat → Option Nat} {i : Nat} (C : Ch R p0 vis cm) (hi : i < cm.length) (I : HInv R f g cm[i].1) (fv : FV f vis cm i) (fp : f p0 = none) (hne : cm[i].2 ≠ p0) :
    ∃ (j : Nat) (hj : j < i) (hl : j < cm.length), f cm[i].2 = some cm[j].1 ∧ HInv R (fput f cm[i].2 cm[i].1) (fput g cm[i].1 cm[i].2) cm[j].1 ∧ FV (fput f cm[i].2 cm[i].1) vis cm j ∧ fput f cm[i].2 cm[i].1 p0 = none := by
  obtain ⟨j', h1, h2⟩ := C.par i hi
  have hj1 : 1 ≤ j' := by
    rcases Nat.eq_zero_or_pos j' with e | e
    · subst e
      rw [C.v0] at h2
      exact absurd (Option.some.inj h2).symm hne
    · exact e
  obtain ⟨c, hc, hf⟩ := fv j' _ hj1 h1 h2
  have hl : j' - 1 < cm.length := by omega
  rw [List.getElem?_eq_getElem hl] at hc
  cases hc
  refine ⟨j' - 1, by omega, hl, hf, I.step hf (C.tie _ (List.getElem_mem hi)), fun j q a b e => ?_, by rw [fput_ne (fun z => hne z.symm)]; exact fp⟩
  have hq : q ≠ cm[i].2 := fun z => by
    subst z
    have := nd_at C.vnd e h2
    omega
  obtain ⟨c2, k1, k2⟩ := fv j q a (by omega) e
  exact ⟨c2, k1, by rw [fput_ne hq]; exact k2⟩
/-! ## the search -/
/-- a dealing: each person's thing -/
structure Deal (R : List (List Nat)) (d : List Nat) : Prop where
  len : d.length = R.length
  nd : d.Nodup
  tie : ∀ q, q < R.length → d.getD q 0 ∈ R.getD q []
def visL (g : Nat → Option Nat) (p0 : Nat) (cm : List (Nat × Nat)) : List Nat := p0 :: cm.map fun c => (g c.1).getD 0
structure Bfs (R : List (List Nat)) (f g : Nat → Option Nat) (p0 : Nat) (cm : List (Nat × Nat)) (k : Nat) : Prop where
  nd : (cm.map (·.1)).Nodup
  own : ∀ c ∈ cm, ∃ q, g c.1 = some q
  tie : ∀ c ∈ cm, c.1 ∈ R.getD c.2 []
  par : ∀ i (h : i < cm.length), ∃ j, j ≤ i ∧ (visL g p0 cm)[j]? = some cm[i].2
  done : ∀ j q, j < k → (visL g p0 cm)[j]? = some q → ∀ x ∈ R.getD q [], x ∈ cm.map (·.1)
section
variable {R : List (List Nat)} {f g : Nat → Option Nat} {p0 : Nat} {cm : List (Nat × Nat)} {k : Nat}
theorem visL_len : (visL g p0 cm).length = cm.length + 1 := by simp [visL]
theorem visL_app (x h : Nat) : visL g p0 (cm ++ [(x, h)]) = visL g p0 cm ++ [(g x).getD 0] := by simp [visL]
theorem app_get {l : List Nat} {j : Nat} {q : Nat} {m : List Nat} (h : l[j]? = some q) : (l ++ m)[j]? = some q := by
  rw [List.getElem?_append_left (List.getElem?_eq_some_iff.mp h).1]; exact h
theorem app_of {l : List Nat} {j : Nat} {q : Nat} {m : List Nat} (hj : j < l.length) (h : (l ++ m)[j]? = some q) : l[j]? = some q := by
  rwa [List.getElem?_append_left hj] at h
theorem Bfs.start : Bfs R f g p0 [] 0 := ⟨List.nodup_nil, fun c h => (by cases h), fun c h => (by cases h), fun i h => (by cases h), fun j q h => (by cases h)⟩
theorem Bfs.vnd (M : MInv R f g) (fp : f p0 = none) (B : Bfs R f g p0 cm k) : (visL g p0 cm).Nodup := by
  unfold visL
  refine List.nodup_cons.mpr ⟨fun h => ?_, ?_⟩
  · obtain ⟨c, hc, e⟩ := List.mem_map.mp h
    obtain ⟨q, hq⟩ := B.own c hc
    rw [hq] at e
    have e : q = p0 := e
    subst e
    rw [M.b _ _ hq] at fp
    cases fp
  · have h := B.nd
    have ho := B.own
    clear B
    induction cm with
    | nil => exact List.nodup_nil
    | cons a cm ih =>
      rw [List.map_cons, List.nodup_cons] at h
      rw [List.map_cons, List.nodup_cons]
      refine ⟨fun hm => ?_, ih h.2 fun c hc => ho c (List.mem_cons_of_mem _ hc)⟩
      obtain ⟨c, hc, e⟩ := List.mem_map.mp hm
      obtain ⟨q, hq⟩ := ho c (List.mem_cons_of_mem _ hc)
      obtain ⟨q', hq'⟩ := ho a List.mem_cons_self
      rw [hq, hq'] at e
      have e : q = q' := e
      subst e
      have e1 := M.b _ _ hq
      have e2 := M.b _ _ hq'
      rw [e1] at e2
      have e3 := Option.some.inj e2
      exact h.1 (by rw [← e3]; exact List.mem_map_of_mem (f := (·.1)) hc)
theorem Bfs.lt (M : MInv R f g) (hp : p0 < R.length) (B : Bfs R f g p0 cm k) : ∀ q ∈ visL g p0 cm, q < R.length := fun q h => by
  unfold visL at h
  rcases List.mem_cons.mp h with e | h
  · rw [e]; exact hp
  · obtain ⟨c, hc, e⟩ := List.mem_map.mp h
    obtain ⟨q', hq⟩ := B.own c hc
    rw [hq] at e
    have e : q' = q := e
    subst e
    exact (M.a _ _ (M.b _ _ hq)).2.2
/-- the search does not end without a free thing -/
theorem Bfs.full {d : List Nat} (M : MInv R f g) (fp : f p0 = none) (hp : p0 < R.length) (B : Bfs R f g p0 cm (cm.length + 1)) (D : Deal R d) : False := by
  have h1 := B.vnd M fp
  have h2 := B.lt M hp
  have inj : ((visL g p0 cm).map fun q => d.getD q 0).Nodup := by
    refine List.pairwise_map.mpr (List.pairwise_iff_forall_sublist.mpr fun {a b} hs => ?_)
    have hab : a ≠ b := List.pairwise_iff_forall_sublist.mp h1 hs
    have ha := h2 a (hs.subset (by simp))
    have hb := h2 b (hs.subset (by simp))
    intro e
    rw [← D.len] at ha hb
    rw [List.getD_eq_getElem?_getD, List.getD_eq_getElem?_getD, List.getElem?_eq_getElem ha, List.getElem?_eq_getElem hb] at e
    exact hab ((List.getElem_inj D.nd).mp e)
  have sub : ∀ x ∈ (visL g p0 cm).map (fun q => d.getD q 0), x ∈ cm.map (·.1) := fun x hx => by
    obtain ⟨q, hq, rfl⟩ := List.mem_map.mp hx
    obtain ⟨j, hj, e⟩ := List.getElem_of_mem hq
    refine B.done j q (by rw [visL_len] at hj; exact hj) (by rw [List.getElem?_eq_getElem hj, e]) _ (D.tie q (h2 q hq))
  have : ∀ (l m : List Nat), l.Nodup → (∀ x ∈ l, x ∈ m) → l.length ≤ m.length := by
    intro l
    induction l with
    | nil => intro m _ _; exact Nat.zero_le _
    | cons a l ih =>
      intro m h k
      obtain ⟨h1, h2⟩ := List.nodup_cons.mp h
      have ham := k a List.mem_cons_self
      have i := ih (m.erase a) h2 fun x hx => (List.mem_erase_of_ne (show x ≠ a from fun e => h1 (by rw [← e]; exact hx))).mpr (k x (List.mem_cons_of_mem _ hx))
      rw [List.length_erase_of_mem ham] at i
      have : 0 < m.length := List.length_pos_of_mem ham
      rw [List.length_cons]
      omega
  have := this _ _ inj sub
  rw [List.length_map, List.length_map, visL_len] at this
  omega
/-- an owned thing more -/
theorem Bfs.add {x h q : Nat} (B : Bfs R f g p0 cm k) (hx : x ∉ cm.map (·.1)) (hg : g x = some q) (hk : k ≤ cm.length) (hh : (visL g p0 cm)[k]? = some h) (ht : x ∈ R.getD h []) : Bfs R f g p0 (cm ++ [(x, h)]) k where
  nd := by
    rw [List.map_append]
    refine List.nodup_append.mpr ⟨B.nd, by simp, fun a ha b hb e => ?_⟩
    simp at hb
    subst hb; subst e
    exact hx ha
  own := fun c hc => by
    rcases List.mem_append.mp hc with hc | hc
    · exact B.own c hc
    · rw [List.mem_singleton.mp hc]; exact ⟨q, hg⟩
  tie := fun c hc => by
    rcases List.mem_append.mp hc with hc | hc
    · exact B.tie c hc
    · rw [List.mem_singleton.mp hc]; exact ht
  par := fun i hi => by
    rw [visL_app]
    by_cases hl : i < cm.length
    · obtain ⟨j, a, b⟩ := B.par i hl
      exact ⟨j, a, by rw [List.getElem_append_left hl]; exact app_get b⟩
    · have e : i = cm.length := by rw [List.length_append] at hi; simp at hi; omega
      subst e
      exact ⟨k, hk, by rw [List.getElem_append_right (Nat.le_refl _)]; simpa using app_get hh⟩
  done := fun j q' hj e y hy => by
    rw [visL_app] at e
    have hjl : j < (visL g p0 cm).length := by rw [visL_len]; omega
    rw [List.map_append]
    exact List.mem_append_left _ (B.done j q' hj (app_of hjl e) y hy)
/-- a free thing: the chain -/
theorem Bfs.chain {x h : Nat} (M : MInv R f g) (fp : f p0 = none) (B : Bfs R f g p0 cm k) (hx : x ∉ cm.map (·.1)) (hk : k ≤ cm.length) (hh : (visL g p0 cm)[k]? = some h) (ht : x ∈ R.getD h []) : Ch R p0 (visL g p0 cm) (cm ++ [(x, h)]) ∧ FV f (visL g p0 cm) (cm ++ [(x, h)]) cm.length := by
  refine ⟨⟨?_, fun c hc => ?_, fun i hi => ?_, B.vnd M fp, rfl⟩, fun j q h1 h2 e => ?_⟩
  · rw [List.map_append]
    refine List.nodup_append.mpr ⟨B.nd, by simp, fun a ha b hb e => ?_⟩
    simp at hb
    subst hb; subst e
    exact hx ha
  · rcases List.mem_append.mp hc with hc | hc
    · exact B.tie c hc
    · rw [List.mem_singleton.mp hc]; exact ht
  · by_cases hl : i < cm.length
    · obtain ⟨j, a, b⟩ := B.par i hl
      exact ⟨j, a, by rw [List.getElem_append_left hl]; exact b⟩
    · have e : i = cm.length := by rw [List.length_append] at hi; simp at hi; omega
      subst e
      exact ⟨k, hk, by rw [List.getElem_append_right (Nat.le_refl _)]; simpa using hh⟩
  · obtain ⟨j, rfl⟩ : ∃ m, j = m + 1 := ⟨j - 1, by omega⟩
    have hjl : j < cm.length := by omega
    unfold visL at e
    rw [List.getElem?_cons_succ, List.getElem?_map, List.getElem?_eq_getElem hjl] at e
    obtain ⟨q', hq⟩ := B.own _ (List.getElem_mem hjl)
    have e : some ((g cm[j].1).getD 0) = some q := e
    rw [hq] at e
    have e : q' = q := Option.some.inj e
    subst e
    exact ⟨cm[j], by rw [Nat.add_sub_cancel, List.getElem?_append_left hjl, List.getElem?_eq_getElem hjl], M.b _ _ hq⟩
theorem Bfs.next (B : Bfs R f g p0 cm k) (hk : k ≤ cm.length) {h : Nat} (hh : (visL g p0 cm)[k]? = some h) (ha : ∀ x ∈ R.getD h [], x ∈ cm.map (·.1)) : Bfs R f g p0 cm (k + 1) :=
  ⟨B.nd, B.own, B.tie, B.par, fun j q hj e x hx => by
    by_cases hjk : j < k
    · exact B.done j q hjk e x hx
    · have : j = k := by omega
      subst this
      rw [hh] at e
      cases e
      exact ha x hx⟩
end
end Fo
set_option Elab.async false
set_option linter.all false
set_option maxRecDepth 100000
/-! Dicts of ints that change; comprehensions that change the world; the matching's cell. -/
namespace Fo
open PySem PySem.Spec PyProof.Rows L2
theorem keyN_inj {a b : Nat} (e : (Sum.inl (a : Int) : Key) = Sum.inl (b : Int)) : a = b := by injection e with e; omega
theorem valV_kvN (L : List (Nat × Nat)) (k : Nat) : valV (kvN L) (Sum.inl (k : Int)) = (L.lookup k).map nV := by
  induction L with
  | nil => rfl
  | cons a L ih =>
    obtain ⟨a1, a2⟩ := a
    show valV ((Sum.inl (a1 : Int), nV a2) :: kvN L) _ = _
    by_cases e : a1 = k
    · subst e
      rw [valV_pos rfl]
      simp [List.lookup]
    · rw [valV_neg (fun z => e (keyN_inj z)), ih]
      have e2 : (k == a1) = false := beq_eq_false_iff_ne.mpr fun z => e z.symm
      simp only [List.lookup, e2]
theorem putK_kvN (L : List (Nat × Nat)) (k v : Nat) : putK (kvN L) (Sum.inl (k : Int)) (nV v) = kvN (putN L k v) := by
  unfold putK putN
  rw [valV_any, valV_kvN]
  by_cases h : k ∈ L.map (·.1)
  · obtain ⟨w, hw⟩ := lookup_some h
    rw [if_pos h, hw, if_pos (show (Option.map nV (some w)).isSome = true from rfl)]
    unfold kvN
    rw [List.map_map, List.map_map]
    refine List.map_congr_left fun p _ => ?_
    show (if (Sum.inl (p.1 : Int) : Key) = Sum.inl (k : Int) then _ else _) = ((Sum.inl (((if p.1 = k then (k, v) else p).1 : Nat) : Int) : Key), nV (if p.1 = k then (k, v) else p).2)
    by_cases e : p.1 = k
    · rw [if_pos (by rw [e]), if_pos e]
      show ((Sum.inl (p.1 : Int) : Key), nV v) = (Sum.inl (k : Int), nV v)
      rw [e]
    · rw [if_neg (fun z => e (keyN_inj z)), if_neg e]
  · rw [if_neg h, lookup_none h, if_neg (by simp)]
    unfold kvN
    rw [List.map_append]
    rfl
section
variable {K : PySem.W.Frag} {W : Wd} {G : Ctx} {td ty tv : TE} {σ : L2.St} {H : Hp} {D : Ends} {d k v : Nat} {a : Addr} {L : List (Nat × Nat)}
abbrev DAt (a : Addr) (L : List (Nat × Nat)) (H : Hp) : Prop := H a = some (.dK (kvN L))
theorem EV.dget {x : Nat} (h : EV W G td (Ty.is (.ref a))) (hk : EV W G ty (tN k)) (hd : ∀ H, W.ok H → DAt a L H) (hv : L.lookup k = some x) : EV W G (tDGet td ty) (tN x) := ⟨fun ok fr q => h.run ok fr fun z H1 s1 p1 => hk.run s1.2 (fr.mo s1.1) fun y H2 s2 p2 => by
  cases p1; cases p2
  refine ⟨a, nV x, rfl, ?_, q _ H2 (s1.trans s2) rfl⟩
  have := DGet.k (k := (Sum.inl (k : Int) : Key)) (hd H2 s2.2)
  rw [valV_kvN, hv] at this
  exact this⟩
theorem EV.dnin (h : EV W G td (Ty.is (.ref a))) (hk : EV W G ty (tN k)) (hd : ∀ H, W.ok H → DAt a L H) : EV W G (tDNotIn ty td) (tBl (!(L.lookup k).isSome)) := ⟨fun ok fr q => hk.run ok fr fun z H1 s1 p1 => h.run s1.2 (fr.mo s1.1) fun y H2 s2 p2 => by
  cases p1; cases p2
  refine ⟨a, (L.lookup k).map nV, rfl, ?_, q _ H2 (s1.trans s2) ?_⟩
  · have := DGet.k (k := (Sum.inl (k : Int) : Key)) (hd H2 s2.2)
    rw [valV_kvN] at this
    exact this
  · show V.bl _ = V.bl _
    rw [Option.isSome_map]⟩
theorem run_dput (h : EV W G td (Ty.is (.ref a))) (hk : EV W G ty (tN k)) (hv : EV W G tv (tN v)) (hd : ∀ H, W.ok H → DAt a L H) (hl : L.length ≤ 900) (ok : W.ok H) (fr : Fr (W.v H) G σ) (q : ∀ H', W.st H H' → Fr (W.v H') G σ → D.nx σ (upd H' a (.dK (kvN (putN L k v))))) : sDPut td ty tv D σ H :=
  hv.run ok fr fun x H1 s1 p1 => h.run s1.2 (fr.mo s1.1) fun z H2 s2 p2 => hk.run s2.2 (fr.mo (s1.trans s2).1) fun y H3 s3 p3 => by
    cases p1; cases p2; cases p3
    have s := (s1.trans s2).trans s3
    refine ⟨a, _, rfl, .inl ⟨kvN L, (Sum.inl (k : Int) : Key), hd H3 s3.2, rfl, szlt (by rw [List.length_map]; omega), rfl⟩, ?_⟩
    have e : putK (kvN L) (Sum.inl (k : Int)) (V.int (v : Int)) = kvN (putN L k v) := putK_kvN L k v
    rw [e]
    exact q H3 s (fr.mo s.1)
end
/-- a comprehension whose turns change the world -/
theorem run_lcM {S : Type} {F : S → Wd} {G : Ctx} {wi : TI} {g : TG} {tt : TT} {te : TE} {vs : List Nat} {α : Type} {s0 : S} (hM : ∀ s s', (F s).M = (F s').M) (L : List α) (X : α → Ty) (u : α → Ctx → Ctx) (J : Nat → S → List Ty → Prop)
    (hi : EVI (F s0) G wi (L.map X)) (hg : ∀ a ∈ L, GT g (X a) (u a) vs) (h0 : J 0 s0 []) (hl : L.length ≤ 999) (hJ : ∀ i s ts, J i s ts → ts.length ≤ i)
    (step : ∀ (D : Addr) (acc : List V) (i : Nat) (a : α) (s : S) (ts : List Ty) (σ : L2.St) (H : Hp) (N : Hp → Prop), D ∉ (F s).M → L[i]? = some a → J i s ts → ((F s).own D (.lst acc) trivial).ok H → Fr (((F s).own D (.lst acc) trivial).v H) (u a (wipeC G vs)) σ →
      (∀ z H4 s' T, J (i + 1) s' (ts ++ [T]) → ((F s').own D (.lst acc) trivial).ok H4 → Xt (((F s).own D (.lst acc) trivial).v H) (((F s').own D (.lst acc) trivial).v H4) → T.p (((F s').own D (.lst acc) trivial).v H4) z → ∃ acc, H4 D = some (.lst acc) ∧ acc.length < sizeLine ∧ N (upd H4 D (.lst (acc ++ [z])))) →
      (∀ H3 s', J (i + 1) s' ts → ((F s').own D (.lst acc) trivial).ok H3 → Xt (((F s).own D (.lst acc) trivial).v H) (((F s').own D (.lst acc) trivial).v H3) → N H3) →
      tt σ H fun b H3 => if b = true then te σ H3 fun z H4 => ∃ acc, H4 D = some (.lst acc) ∧ acc.length < sizeLine ∧ N (upd H4 D (.lst (acc ++ [z]))) else N H3)
    {σ : L2.St} {H0 : Hp} {Q : VK} (ok0 : (F s0).ok H0) (fr : Fr ((F s0).v H0) G σ) (k : ∀ v H' s ts, J L.length s ts → (F s).ok H' → Xt ((F s0).v H0) ((F s).v H') → (Ty.lst ts).p ((F s).v H') v → Q v H') : tLc wi g tt te vs σ H0 Q := hi.run ok0 fr fun I0 H1 gd s1 hg1 I => by
  intro D hD
  have hDM0 := s1.2.nM hD
  have hDM : ∀ s, D ∉ (F s).M := fun s => by rw [hM s s0]; exact hDM0
  let Pv : Nat → Hp → Prop := fun i H => ∃ s ts acc, J i s ts ∧ ((F s).own D (.lst acc) trivial).ok H ∧ Xt ((F s0).v H1) (((F s).own D (.lst acc) trivial).v H) ∧ Al (((F s).own D (.lst acc) trivial).v H) ts acc
  have P0 : Pv 0 (upd H1 D (.lst [])) := ⟨s0, [], [], h0, s1.2.own hD, by rw [own_v s1.2 hD]; exact Xt.refl _, trivial⟩
  refine ⟨fun i m H => m = L.length - i ∧ i ≤ L.length ∧ Pv i H, ⟨L.length, by simp, Nat.zero_le _, P0⟩, ?_⟩
  rintro i m H ⟨rfl, hil, s, ts, acc, hj, okD, x, al⟩
  have gH := I.mo hg1 x
  by_cases hlt : i < L.length
  · refine .inr ⟨I.go gH (vis_sub _ _) (by rw [List.length_map]; exact hlt), Pv (i + 1), fun H' p => ⟨L.length - (i + 1), by omega, rfl, hlt, p⟩, fun y H' hy => ?_⟩
    have ha : L[i]? = some L[i] := List.getElem?_eq_getElem hlt
    have hm : L[i] ∈ L := List.getElem_mem hlt
    obtain ⟨xH, py⟩ := I.yld okD gH (by rw [List.getElem?_map, ha]; rfl) hy
    have ok' := (okD.pure xH)
    have frw := Fr.wipe (fr.mo (s1.1.trans (x.trans ok'.1))) vs
    refine hg _ hm ((F s).own D (.lst acc) trivial) H' _ _ y _ frw py fun σ' fr' hw => ⟨hw σ rfl, ?_⟩
    refine step D acc i L[i] s ts σ' H' _ (hDM s) ha hj ok'.2 fr' (fun z H4 s' T hj4 ok4 x4 pz => ⟨acc, ok4.at, szlt ?_, s', ts ++ [T], acc ++ [z], hj4, ok4.put (hDM s'), ?_, ?_⟩) fun H3 s' hj3 ok3 x3 => ⟨s', ts, acc, hj3, ok3, (x.trans ok'.1).trans x3, (al.mo ok'.1).mo x3⟩
    · rw [← al.len]
      have := hJ i s ts hj
      omega
    · rw [own_put (n := trivial)]
      exact (x.trans ok'.1).trans x4
    · rw [own_put (n := trivial)]
      exact ((al.mo ok'.1).mo x4).app ⟨pz, trivial⟩
  · have e : i = L.length := by omega
    subst e
    refine .inl ⟨by have := I.stop gH (vis_sub _ _); rwa [List.length_map] at this, ?_⟩
    have xx : Xt ((F s0).v H1) ((F s).v H) := x.trans own_sub
    refine k _ H s ts hj okD.show_ (s1.1.trans xx) ⟨D, acc, rfl, ?_, al.mo own_sub⟩
    rw [Wd.v, vis_eq (hDM s)]; exact okD.at
end Fo
set_option Elab.async false
set_option linter.all false
set_option maxRecDepth 100000
set_option maxHeartbeats 1000000
namespace Fo
open PySem PySem.Spec PyProof.Rows L2
local macro_rules | `(tactic| walk_at "ev") => `(tactic| first
  | ((with_reducible apply EV.var); rfl)
  | (with_reducible exact EV.cst)
  | (with_reducible exact EVA.nil)
  | (with_reducible exact EVO.none)
  | ((with_reducible apply EVO.some); (· walk_at "ev"))
  | ((with_reducible apply EVA.cons); (· walk_at "ev"); (· walk_at "ev"))
  | ((with_reducible apply EV.op); (· walk_at "ev"); (· walk_at "ev"); (· walk_at "rv"))
  | ((with_reducible apply EV.un); (· walk_at "ev"); (· exact RU.neg))
  | ((with_reducible apply EV.chain); (· walk_at "ev"); (· walk_at "ev"); (· walk_at "rv"); (· walk_at "ev"); (· walk_at "rv"))
  | ((with_reducible apply EV.cb); (· walk_at "ev"); (· walk_at "rv"))
  | ((with_reducible apply EV.bits); (· walk_at "ev"))
  | ((with_reducible apply EV.slT); (· walk_at "ev"); (· walk_at "ev"); (· walk_at "ev"))
  | ((with_reducible apply EV.isN); (· walk_at "ev"))
  | ((with_reducible apply EV.notN); (· walk_at "ev"))
  | ((with_reducible apply EV.notV); (· walk_at "ev"))
  | ((with_reducible apply EV.andV); (· walk_at "ev"); (· intro _; walk_at "ev"))
  | ((with_reducible apply EVT.test); (· walk_at "ev"))
  | ((with_reducible apply EVT.B); (· walk_at "ev"))
  | ((with_reducible apply EVT.not); (· walk_at "ev"))
  | ((with_reducible apply EV.tup); (· walk_at "ev"); (· decide))
  | ((with_reducible apply EV.lst); (· walk_at "ev"); (· decide))
  | ((with_reducible apply EVI.list); (· walk_at "ev"))
  | ((with_reducible apply EVI.tup); (· walk_at "ev"))
  | ((with_reducible apply EVI.enum); (· walk_at "ev"))
  | ((with_reducible apply EVI.enumT); (· walk_at "ev"))
  | ((with_reducible apply EVI.zipT); (· walk_at "ev"); (· walk_at "ev")))
local macro_rules | `(tactic| walk_at "rv") => `(tactic| first
  | exact RV.I0
  | exact RV.oneShl (by decide)
  | exact RV.shrN
  | exact RV.odd
  | exact RC.isi_ii
  | exact RC.isi_ib
  | exact RC.isi_tt
  | exact RC.isi_ss
  | exact RC.lenT
  | exact RC.lenL
  | exact RC.sumF
  | exact RC.allF
  | exact RV.inTN
  | exact RV.inLN
  | exact RV.inTO
  | exact RC.tupOf
  | exact RC.lstOfT
  | exact RC.lstOfL
  | exact RC.int
  | exact RC.intB
  | exact RC.abs
  | exact RV.Eq rfl
  | exact RV.Ne rfl)
/-! ## Matching -/
abbrev MtSt := List (Nat × Nat) × List (Nat × Nat)
abbrev lk (L : List (Nat × Nat)) : Nat → Option Nat := fun k => L.lookup k
section
variable {P : Program} {w : World} {K : PySem.W.Frag} {mg : Str → Option Value} {base : Heap} {W : Wd} {G : Ctx}
def MtAt (T : Tp K mg) (R : List (List Nat)) (m d1 d2 : Addr) (s : MtSt) (h H : Hp) : Prop := ∃ dx rv, H m = some (.ins T.Matching.C dx [("rows", rv), ("of", .ref d1), ("owner", .ref d2)]) ∧ (tRows R).p h rv ∧ DAt d1 s.1 H ∧ DAt d2 s.2 H
theorem MtAt.cl {T : Tp K mg} {R : List (List Nat)} {m d1 d2 : Addr} {s : MtSt} : Cl [m, d1, d2] (MtAt T R m d1 d2 s) where
  al := fun {h H x} ⟨dx, rv, e1, _, e2, e3⟩ hx => by
    rcases List.mem_cons.mp hx with e | hx
    · rw [e]; exact ⟨_, e1⟩
    · rcases List.mem_cons.mp hx with e | hx
      · rw [e]; exact ⟨_, e2⟩
      · rw [List.mem_singleton.mp hx]; exact ⟨_, e3⟩
  mo := fun {h h' H H'} ⟨dx, rv, e1, p, e2, e3⟩ x k => ⟨dx, rv, by rw [k m (by simp)]; exact e1, (tRows R).mo x p, by show H' d1 = _; rw [k d1 (by simp)]; exact e2, by show H' d2 = _; rw [k d2 (by simp)]; exact e3⟩
abbrev HasM (T : Tp K mg) (R : List (List Nat)) (m d1 d2 : Addr) (s : MtSt) (W : Wd) : Prop := Has W [m, d1, d2] (MtAt T R m d1 d2 s)
theorem lk31 {a b c : V} : List.lookup ("of" : Str) ([("rows", a), ("of", b), ("owner", c)] : List (Str × V)) = some b := by
  have h1 : (("of" : Str) == ("rows" : Str)) = false := by decide +kernel
  simp [List.lookup, h1]
theorem lk32 {a b c : V} : List.lookup ("owner" : Str) ([("rows", a), ("of", b), ("owner", c)] : List (Str × V)) = some c := by
  have h1 : (("owner" : Str) == ("rows" : Str)) = false := by decide +kernel
  have h2 : (("owner" : Str) == ("of" : Str)) = false := by decide +kernel
  simp [List.lookup, h1, h2]
theorem EV.mrows {T : Tp K mg} {R : List (List Nat)} {m d1 d2 : Addr} {s : MtSt} {te : TE} (c : HasM T R m d1 d2 s W) (h : EV W G te (Ty.is (.ref m))) : EV W G (tFld K te "rows") (tRows R) := ⟨fun ok fr k => h.run ok fr fun v H1 s1 p => by
  cases p
  obtain ⟨dx, rv, e1, pr, _, _⟩ := c.at s1.2
  exact ⟨m, _, dx, _, rv, rfl, e1, T.Matching.cl, T.Matching.na _ (by decide +kernel), rfl, k _ H1 s1 pr⟩⟩
theorem EV.mof {T : Tp K mg} {R : List (List Nat)} {m d1 d2 : Addr} {s : MtSt} {te : TE} (c : HasM T R m d1 d2 s W) (h : EV W G te (Ty.is (.ref m))) : EV W G (tFld K te "of") (Ty.is (.ref d1)) := ⟨fun ok fr k => h.run ok fr fun v H1 s1 p => by
  cases p
  obtain ⟨dx, rv, e1, pr, _, _⟩ := c.at s1.2
  exact ⟨m, _, dx, _, _, rfl, e1, T.Matching.cl, T.Matching.na _ (by decide +kernel), lk31, k _ H1 s1 rfl⟩⟩
theorem EV.mown {T : Tp K mg} {R : List (List Nat)} {m d1 d2 : Addr} {s : MtSt} {te : TE} (c : HasM T R m d1 d2 s W) (h : EV W G te (Ty.is (.ref m))) : EV W G (tFld K te "owner") (Ty.is (.ref d2)) := ⟨fun ok fr k => h.run ok fr fun v H1 s1 p => by
  cases p
  obtain ⟨dx, rv, e1, pr, _, _⟩ := c.at s1.2
  exact ⟨m, _, dx, _, _, rfl, e1, T.Matching.cl, T.Matching.na _ (by decide +kernel), lk32, k _ H1 s1 rfl⟩⟩
theorem HasM.ins {T : Tp K mg} {R : List (List Nat)} {m d1 d2 : Addr} {s : MtSt} {n : Str} (c : HasM T R m d1 d2 s W) (hm : ∀ f ∈ (["rows", "of", "owner"] : List Str), n ≠ f) (H : Hp) (ok : W.ok H) : ∃ dx fs, H m = some (.ins T.Matching.C dx fs) ∧ fs.lookup n = none := by
  obtain ⟨dx, rv, e1, pr, _, _⟩ := c.at ok
  refine ⟨dx, _, e1, ?_⟩
  have h1 : (n == ("rows" : Str)) = false := beq_eq_false_iff_ne.mpr (hm _ (by simp))
  have h2 : (n == ("of" : Str)) = false := beq_eq_false_iff_ne.mpr (hm _ (by simp))
  have h3 : (n == ("owner" : Str)) = false := beq_eq_false_iff_ne.mpr (hm _ (by simp))
  simp only [List.lookup, h1, h2, h3]
theorem HasM.d1 {T : Tp K mg} {R : List (List Nat)} {m d1 d2 : Addr} {s : MtSt} (c : HasM T R m d1 d2 s W) (H : Hp) (ok : W.ok H) : DAt d1 s.1 H := by
  obtain ⟨dx, rv, e1, pr, e2, e3⟩ := c.at ok
  exact e2
theorem HasM.d2 {T : Tp K mg} {R : List (List Nat)} {m d1 d2 : Addr} {s : MtSt} (c : HasM T R m d1 d2 s W) (H : Hp) (ok : W.ok H) : DAt d2 s.2 H := by
  obtain ⟨dx, rv, e1, pr, e2, e3⟩ := c.at ok
  exact e3
abbrev LensM (T : Tp K mg) (R : List (List Nat)) (m d1 d2 : Addr) (F : MtSt → Wd) : Prop := Lens F [m, d1, d2] (MtAt T R m d1 d2)
theorem LensM.put1 {T : Tp K mg} {R : List (List Nat)} {m d1 d2 : Addr} {F : MtSt → Wd} {s : MtSt} {L : List (Nat × Nat)} {H : Hp} (l : LensM T R m d1 d2 F) (hne : d1 ≠ d2) (ok : (F s).ok H) : (F (L, s.2)).ok (upd H d1 (.dK (kvN L))) ∧ (F (L, s.2)).v (upd H d1 (.dK (kvN L))) = (F s).v H := by
  obtain ⟨dx, rv, e1, pr, e2, e3⟩ := l.at ok
  refine l.write ok (fun x hx => upd_ne fun z => hx (by rw [z]; simp)) ⟨dx, rv, ?_, pr, upd_same, ?_⟩
  · rw [upd_ne (fun z => by rw [z] at e1; have e2 : H d1 = _ := e2; rw [e2] at e1; cases e1)]; exact e1
  · show upd H d1 _ d2 = _
    rw [upd_ne hne.symm]; exact e3
theorem LensM.put2 {T : Tp K mg} {R : List (List Nat)} {m d1 d2 : Addr} {F : MtSt → Wd} {s : MtSt} {L : List (Nat × Nat)} {H : Hp} (l : LensM T R m d1 d2 F) (hne : d1 ≠ d2) (ok : (F s).ok H) : (F (s.1, L)).ok (upd H d2 (.dK (kvN L))) ∧ (F (s.1, L)).v (upd H d2 (.dK (kvN L))) = (F s).v H := by
  obtain ⟨dx, rv, e1, pr, e2, e3⟩ := l.at ok
  refine l.write ok (fun x hx => upd_ne fun z => hx (by rw [z]; simp)) ⟨dx, rv, ?_, pr, ?_, upd_same⟩
  · rw [upd_ne (fun z => by rw [z] at e1; have e3 : H d2 = _ := e3; rw [e3] at e1; cases e1)]; exact e1
  · show upd H d2 _ d1 = _
    rw [upd_ne hne]; exact e2
/-- the matching stands: all that the dicts say -/
structure MOk (R : List (List Nat)) (s : MtSt) : Prop where
  k1 : Ndk 4 s.1
  k2 : Ndk 4 s.2
def spHand (T : Tp K mg) : Sp := fun vs H Q _ => ∃ (F : MtSt → Wd) (s : MtSt) (R : List (List Nat)) (m d1 d2 c : Addr) (cm : List (Nat × Nat)) (i : Nat) (hi : i < cm.length) (vis : List Nat) (p0 : Nat), LensM T R m d1 d2 F ∧ d1 ≠ d2 ∧ (∀ s H, (F s).ok H → DAt c cm H) ∧ RowsOk R ∧ MOk R s ∧ Ch R p0 vis cm ∧
  (∀ q ∈ vis, q < 4) ∧ HInv R (lk s.1) (lk s.2) cm[i].1 ∧ FV (lk s.1) vis cm i ∧ lk s.1 p0 = none ∧ p0 < R.length ∧ (F s).ok H ∧ vs = [.ref m, nV cm[i].1, .ref c, nV p0] ∧
  ∀ s' H', MOk R s' → MInv R (lk s'.1) (lk s'.2) → (∀ q, (lk s'.1 q).isSome = (decide (q = p0) || (lk s.1 q).isSome)) → (F s').ok H' → Xt ((F s).v H) ((F s').v H') → Q .non H'
theorem lk_put (L : List (Nat × Nat)) (k v : Nat) : lk (putN L k v) = fput (lk L) k v := lookup_putN L k v
theorem ok_hand_on (T : Tp K mg) : FnOk P w K mg base CX0 1 T.Matching_hand_on.a T.Matching_hand_on.fd p_Matching_hand_on (spHand T) := by
  refine T.Matching_hand_on.F.ok sc_Matching_hand_on (fun vs H Q E h => ?_) (fun cdv A outer s H vs Q E hr h => ?_)
  · obtain ⟨F, s, R, m, d1, d2, c, cm, i, hi, vis, p0, _, _, _, _, _, _, _, _, _, _, _, _, rfl, _⟩ := h
    rfl
  obtain ⟨F, s0, R, m, d1, d2, c, cm, i0, hi0, vis, p0, L, hne, hc, hR, M, C, hv4, hI, hfv, hp0, hpl, ok, rfl, kq⟩ := h
  have nd := sc_Matching_hand_on.nd
  refine ⟨_, (pss_cons (ps_set (i := 4) nd rfl (Or.inl rfl) (pe_dget (hu_of hr) (pv 2) (pv 1) (fun _ _ => rfl))) (pss_cons (ps_while PassesOwn.never (pt_cmpR op_ne (pv 4) (pv 3) (nomark _)) (pss_cons (ps_set (i := 5) nd rfl (Or.inl rfl) (pe_dget (hu_of hr) (pe_fld (pv 0) rfl) (pv 4) (fun _ _ => rfl))) (pss_cons (ps_dput (hu_of hr) (pe_fld (pv 0) rfl) (pv 4) (pv 1) rfl) (pss_cons (ps_dput (hu_of hr) (pe_fld (pv 0) rfl) (pv 1) (pv 4) rfl) (pss_cons (ps_set (i := 1) nd rfl (Or.inl rfl) (pv 5)) (pss_one (ps_set (i := 4) nd rfl (Or.inl rfl) (pe_dget (hu_of hr) (pv 2) (pv 1) (fun _ _ => rfl))))))))) (pss_cons (ps_dput (hu_of hr) (pe_fld (pv 0) rfl) (pv 4) (pv 1) rfl) (pss_one (ps_dput (hu_of hr) (pe_fld (pv 0) rfl) (pv 1) (pv 4) rfl))))), ?_⟩
  let G : Nat → Nat → Ctx := fun t h => [some (Ty.is (.ref m)), some (tN t), some (Ty.is (.ref c)), some (tN p0), some (tN h), none]
  have fr : Fr ((F s0).v H) [some (Ty.is (.ref m)), some (tN cm[i0].1), some (Ty.is (.ref c)), some (tN p0), none, none] (L2.start n_Matching_hand_on [.ref m, nV cm[i0].1, .ref c, nV p0]) := ⟨rfl, rfl, rfl, rfl, trivial⟩
  refine run_asg (EV.dget (EV.var rfl) (EV.var rfl) (hc s0) (lookup_mem C.nd hi0)) ok fr fun v1 H1 s1 p1 fr1 => ?_
  let Wm : Nat → L2.St → Hp → Prop := fun i σ H' => ∃ (hi : i < cm.length) (s' : MtSt), MOk R s' ∧ HInv R (lk s'.1) (lk s'.2) cm[i].1 ∧ FV (lk s'.1) vis cm i ∧ lk s'.1 p0 = none ∧ (∀ q, (lk s'.1 q).isSome = (lk s0.1 q).isSome) ∧ (F s').ok H' ∧ Xt ((F s0).v H) ((F s').v H') ∧ Fr ((F s').v H') (G cm[i].1 cm[i].2) σ
  have w0 : Wm i0 _ H1 := ⟨hi0, s0, M, hI, hfv, hp0, fun _ => rfl, s1.2, s1.1, fr1⟩
  refine run_seq ⟨Wm, ⟨i0, w0⟩, ?_⟩
  rintro i σ H2 ⟨hi, s2, M2, hI2, hfv2, hp2, hdom, ok2, x2, fr2⟩
  have hx4 : ∀ i (h : i < cm.length), cm[i].1 < 4 := fun i h => by
    have ht := C.tie _ (List.getElem_mem h)
    by_cases hl : cm[i].2 < R.length
    · have := (hR.2.2 _ (hR.row hl)).2 _ ht
      have := hR.2.1
      omega
    · rw [List.getD_eq_getElem?_getD, List.getElem?_eq_none (by omega)] at ht
      cases ht
  have hh4 : cm[i].2 < 4 := by
    obtain ⟨j, _, e⟩ := C.par i hi
    exact hv4 _ (List.mem_of_getElem? e)
  have hm2 : HasM T R m d1 d2 s2 (F s2) := L.has
  refine (EVT.eq (EVT.B (EV.op (EV.var (i := 4) rfl) (EV.var (i := 3) rfl) (RV.Ne rfl))) (ne_n cm[i].2 p0)).run ok2 fr2 fun H3 s3 => ?_
  have fr3 := fr2.mo s3.1
  by_cases hb : cm[i].2 = p0
  · rw [decide_eq_true hb]
    refine iteF ?_
    -- the last
    have ht := C.tie _ (List.getElem_mem hi)
    refine run_seq (run_dput (EV.mof hm2 (EV.var (i := 0) rfl)) (EV.var (i := 4) rfl) (EV.var (i := 1) rfl) (hm2.d1) (by have := M2.k1.len; omega) s3.2 fr3 fun H4 s4 fr4 => ?_)
    obtain ⟨ok5, v5⟩ := L.put1 (L := putN s2.1 cm[i].2 cm[i].1) hne s4.2
    rw [← v5] at fr4
    have hm5 : HasM T R m d1 d2 (putN s2.1 cm[i].2 cm[i].1, s2.2) (F (putN s2.1 cm[i].2 cm[i].1, s2.2)) := L.has
    refine run_dput (EV.mown hm5 (EV.var (i := 0) rfl)) (EV.var (i := 1) rfl) (EV.var (i := 4) rfl) (hm5.d2) (by have := M2.k2.len; show s2.2.length ≤ 900; omega) ok5 fr4 fun H6 s6 fr6 => ?_
    obtain ⟨ok7, v7⟩ := L.put2 (L := putN s2.2 cm[i].1 cm[i].2) hne s6.2
    refine kq (putN s2.1 cm[i].2 cm[i].1, putN s2.2 cm[i].1 cm[i].2) _ ⟨M2.k1.put hh4, M2.k2.put (hx4 i hi)⟩ ?_ (fun q => ?_) ok7 ?_
    · show MInv R (lk (putN s2.1 _ _)) (lk (putN s2.2 _ _))
      rw [lk_put, lk_put]
      exact hI2.last (by rw [hb]; exact hp2) ht (by rw [hb]; exact hpl)
    · show (lk (putN s2.1 _ _) q).isSome = _
      rw [lk_put, ← hdom q, hb]
      by_cases hq : q = p0
      · rw [hq, fput_same, decide_eq_true rfl]; rfl
      · rw [fput_ne hq, decide_eq_false hq]; rfl
    · rw [v7]
      refine Xt.trans ?_ s6.1
      rw [v5]
      exact x2.trans (s3.trans s4).1
  · rw [decide_eq_false hb]
    refine iteT ?_
    obtain ⟨j, hj, hjl, hf, nI, nfv, np⟩ := C.step hi hI2 hfv2 hp2 hb
    refine ⟨fun σ' H' => Wm j σ' H', fun σ' H' z => ⟨j, hj, z⟩, ?_⟩
    refine run_asg (EV.dget (EV.mof hm2 (EV.var (i := 0) rfl)) (EV.var (i := 4) rfl) hm2.d1 hf) s3.2 fr3 fun v4 H4 s4 p4 fr4 => ?_
    refine run_seq (run_dput (EV.mof hm2 (EV.var (i := 0) rfl)) (EV.var (i := 4) rfl) (EV.var (i := 1) rfl) (hm2.d1) (by have := M2.k1.len; omega) s4.2 fr4 fun H5 s5 fr5 => ?_)
    obtain ⟨ok6, v6⟩ := L.put1 (L := putN s2.1 cm[i].2 cm[i].1) hne s5.2
    rw [← v6] at fr5
    have hm6 : HasM T R m d1 d2 (putN s2.1 cm[i].2 cm[i].1, s2.2) (F (putN s2.1 cm[i].2 cm[i].1, s2.2)) := L.has
    refine run_seq (run_dput (EV.mown hm6 (EV.var (i := 0) rfl)) (EV.var (i := 1) rfl) (EV.var (i := 4) rfl) (hm6.d2) (by have := M2.k2.len; show s2.2.length ≤ 900; omega) ok6 fr5 fun H7 s7 fr7 => ?_)
    obtain ⟨ok8, v8⟩ := L.put2 (L := putN s2.2 cm[i].1 cm[i].2) hne s7.2
    rw [← v8] at fr7
    refine run_asg (EV.var (i := 5) rfl) ok8 fr7 fun v9 H9 s9 p9 fr9 => ?_
    refine (EV.dget (EV.var (i := 2) rfl) (EV.var (i := 1) rfl) (hc _) (lookup_mem C.nd hjl)).run s9.2 fr9 fun va Ha sa pa => ?_
    refine ⟨hjl, (putN s2.1 cm[i].2 cm[i].1, putN s2.2 cm[i].1 cm[i].2), ⟨M2.k1.put hh4, M2.k2.put (hx4 i hi)⟩, ?_, ?_, ?_, fun q => ?_, sa.2, ?_, ?_⟩
    · show HInv R (lk (putN s2.1 _ _)) (lk (putN s2.2 _ _)) _
      rw [lk_put, lk_put]; exact nI
    · show FV (lk (putN s2.1 _ _)) _ _ _
      rw [lk_put]; exact nfv
    · show lk (putN s2.1 _ _) _ = none
      rw [lk_put]; exact np
    · show (lk (putN s2.1 _ _) q).isSome = _
      rw [lk_put, ← hdom q]
      by_cases hq : q = cm[i].2
      · rw [hq, fput_same]
        have : lk s2.1 cm[i].2 = some cm[j].1 := hf
        rw [this]; rfl
      · rw [fput_ne hq]
    · refine Xt.trans ?_ (s9.trans sa).1
      show Xt _ ((F (putN s2.1 cm[i].2 cm[i].1, putN s2.2 cm[i].1 cm[i].2)).v _)
      rw [v8]
      refine Xt.trans ?_ s7.1
      rw [v6]
      exact x2.trans ((s3.trans s4).trans s5).1
    · exact Fr.unset (i := 5) ((fr9.mo sa.1).set pa 4) rfl
end
end Fo
set_option Elab.async false
set_option linter.all false
set_option maxRecDepth 100000
set_option maxHeartbeats 1000000
namespace Fo
open PySem PySem.Spec PyProof.Rows L2
local macro_rules | `(tactic| walk_at "ev") => `(tactic| first
  | ((with_reducible apply EV.var); rfl)
  | (with_reducible exact EV.cst)
  | (with_reducible exact EVA.nil)
  | (with_reducible exact EVO.none)
  | ((with_reducible apply EVO.some); (· walk_at "ev"))
  | ((with_reducible apply EVA.cons); (· walk_at "ev"); (· walk_at "ev"))
  | ((with_reducible apply EV.op); (· walk_at "ev"); (· walk_at "ev"); (· walk_at "rv"))
  | ((with_reducible apply EV.un); (· walk_at "ev"); (· exact RU.neg))
  | ((with_reducible apply EV.chain); (· walk_at "ev"); (· walk_at "ev"); (· walk_at "rv"); (· walk_at "ev"); (· walk_at "rv"))
  | ((with_reducible apply EV.cb); (· walk_at "ev"); (· walk_at "rv"))
  | ((with_reducible apply EV.bits); (· walk_at "ev"))
  | ((with_reducible apply EV.slT); (· walk_at "ev"); (· walk_at "ev"); (· walk_at "ev"))
  | ((with_reducible apply EV.isN); (· walk_at "ev"))
  | ((with_reducible apply EV.notN); (· walk_at "ev"))
  | ((with_reducible apply EV.notV); (· walk_at "ev"))
  | ((with_reducible apply EV.andV); (· walk_at "ev"); (· intro _; walk_at "ev"))
  | ((with_reducible apply EVT.test); (· walk_at "ev"))
  | ((with_reducible apply EVT.B); (· walk_at "ev"))
  | ((with_reducible apply EVT.not); (· walk_at "ev"))
  | ((with_reducible apply EV.tup); (· walk_at "ev"); (· decide))
  | ((with_reducible apply EV.lst); (· walk_at "ev"); (· decide))
  | ((with_reducible apply EVI.list); (· walk_at "ev"))
  | ((with_reducible apply EVI.tup); (· walk_at "ev"))
  | ((with_reducible apply EVI.enum); (· walk_at "ev"))
  | ((with_reducible apply EVI.enumT); (· walk_at "ev"))
  | ((with_reducible apply EVI.zipT); (· walk_at "ev"); (· walk_at "ev")))
local macro_rules | `(tactic| walk_at "rv") => `(tactic| first
  | exact RV.I0
  | exact RV.oneShl (by decide)
  | exact RV.shrN
  | exact RV.odd
  | exact RC.isi_ii
  | exact RC.isi_ib
  | exact RC.isi_tt
  | exact RC.isi_ss
  | exact RC.lenT
  | exact RC.lenL
  | exact RC.sumF
  | exact RC.allF
  | exact RV.inTN
  | exact RV.inLN
  | exact RV.inTO
  | exact RC.tupOf
  | exact RC.lstOfT
  | exact RC.lstOfL
  | exact RC.int
  | exact RC.intB
  | exact RC.abs
  | exact RV.Eq rfl
  | exact RV.Ne rfl)
/-! ## Matching.seat -/
section
variable {P : Program} {w : World} {K : PySem.W.Frag} {mg : Str → Option Value} {base : Heap} {W : Wd} {G : Ctx}
theorem EV.lenOwn {te : TE} {q : Addr} {xs : List V} {n : Nat} (h : EV W G te (Ty.is (.ref q))) (hq : ∀ H, W.ok H → H q = some (.lst xs)) (hn : xs.length = n) : EV W G (tCB (rLenS K) (tCons te tNil)) (tN n) := ⟨fun ok fr k => h.run ok fr fun v H1 s1 p => by
  cases p
  exact ⟨q, xs, rfl, .inl (SqL.of (hq H1 s1.2)), k _ H1 s1 (by rw [hn]; rfl)⟩⟩
theorem run_ifE {W : Wd} {G : Ctx} {t v : TS} {tt : TT} {σ : L2.St} {H : Hp} {D : Ends} {b : Bool} (h : EVT W G tt b) (ok : W.ok H) (fr : Fr (W.v H) G σ) (h1 : b = true → ∀ H', W.st H H' → Fr (W.v H') G σ → t D σ H') (h2 : b = false → ∀ H', W.st H H' → Fr (W.v H') G σ → v D σ H') : tIfS tt t v D σ H :=
  run_if1b h ok fr h1 h2
def spSeat (T : Tp K mg) : Sp := fun vs H Q _ => ∃ (F : MtSt → Wd) (s : MtSt) (R : List (List Nat)) (m d1 d2 : Addr) (p0 : Nat) (d : List Nat), LensM T R m d1 d2 F ∧ d1 ≠ d2 ∧ RowsOk R ∧ MOk R s ∧ MInv R (lk s.1) (lk s.2) ∧ lk s.1 p0 = none ∧ p0 < R.length ∧ Deal R d ∧ (F s).ok H ∧ vs = [.ref m, nV p0] ∧
  ∀ s' H', MOk R s' → MInv R (lk s'.1) (lk s'.2) → (∀ q, (lk s'.1 q).isSome = (decide (q = p0) || (lk s.1 q).isSome)) → (F s').ok H' → Xt ((F s).v H) ((F s').v H') → Q (.bl true) H'
theorem putN_new {L : List (Nat × Nat)} {k v : Nat} (h : k ∉ L.map (·.1)) : putN L k v = L ++ [(k, v)] := if_neg h
theorem lookup_dec (L : List (Nat × Nat)) (k : Nat) : (!(L.lookup k).isSome) = decide (k ∉ L.map (·.1)) := by
  by_cases h : k ∈ L.map (·.1)
  · obtain ⟨v, hv⟩ := lookup_some h
    rw [hv, decide_eq_false (fun z => z h)]; rfl
  · rw [lookup_none h, decide_eq_true h]; rfl
theorem ok_seat (T : Tp K mg) : FnOk P w K mg base CX0 2 T.Matching_seat.a T.Matching_seat.fd p_Matching_seat (spSeat T) := by
  refine T.Matching_seat.F.ok sc_Matching_seat (fun vs H Q E h => ?_) (fun cdv A outer s H vs Q E hr h => ?_)
  · obtain ⟨F, s, R, m, d1, d2, p0, d, _, _, _, _, _, _, _, _, _, rfl, _⟩ := h
    rfl
  obtain ⟨F, s0, R, m, d1, d2, p0, d, L, hne, hR, M, hI, hp0, hpl, hd, ok, rfl, kq⟩ := h
  have nd := sc_Matching_seat.nd
  refine ⟨_, (pss_cons (ps_set (i := 2) nd rfl (Or.inl rfl) pe_dnewK) (pss_cons (ps_set (i := 3) nd rfl (Or.inl rfl) (pe_lst (pa_cons (pv 1) pa_nil))) (pss_cons (ps_while PassesOwn.never (pt_cmpR op_gt (pe_callB call_len_seq (by rfl) T.b_len PySem.boot_len (pa_cons (pv 3) pa_nil)) pe_int (nomark _)) (pss_cons (ps_set (i := 4) nd rfl (Or.inl rfl) (pe_bm PySem.F.plainAttrs_list PySem.F.slot_list_pop PySem.F.type_list_pop mt_popAt (pv 3) (pa_cons pe_int pa_nil))) (pss_one (ps_for PassesOwn.never rfl (pi_tup (pe_ix ix_tup (pe_fld (pv 0) rfl) (pv 4) (fun _ _ => rfl))) (pg_name (i := 5) nd rfl (Or.inl rfl)) (pss_one (ps_if (pt_cmp (pc_dnotin (hu_of hr) (pv 5) (pv 2))) (pss_cons (ps_dput (hu_of hr) (pv 2) (pv 5) (pv 4) rfl) (pss_cons (ps_if (pt_cmp (pc_dnotin (hu_of hr) (pv 5) (pe_fld (pv 0) rfl))) (pss_cons (ps_expr (pe_meth (pv 0) T.Matching.cl T.Matching_hand_on.mt (ok_hand_on T) (hr.mono (by first | decide | omega)) T.Matching_hand_on.b .nil pass0 (pa_cons (pv 5) (pa_cons (pv 2) (pa_cons (pv 1) pa_nil))))) (pss_one (ps_ret pe_bl))) pss_nil) (pss_one (ps_expr (pe_bm PySem.F.plainAttrs_list PySem.F.slot_list_append PySem.F.type_list_append mt_append (pv 3) (pa_cons (pe_dget (hu_of hr) (pe_fld (pv 0) rfl) (pv 5) (fun _ _ => rfl)) pa_nil)))))) pss_nil)))))) (pss_one (ps_ret pe_bl))))), ?_⟩
  have hn4 := hR.2.1
  refine run_asgQ (run_dnewQ fun c hc => ?_)
  have hcM := ok.nM hc
  have ok1 := ok.own (o := .dK (kvN [])) (n := trivial) hc
  have v1 : ((F s0).own c (.dK (kvN [])) trivial).v (upd H c (.dK (kvN []))) = (F s0).v H := own_v ok hc
  let F1 : List (Nat × Nat) → MtSt → Wd := fun cm s => (F s).own c (.dK (kvN cm)) trivial
  have fr1 : Fr ((F1 [] s0).v (upd H c (.dK (kvN [])))) [some (Ty.is (.ref m)), some (tN p0), some (Ty.is (.ref c)), none, none, none] ((L2.start n_Matching_seat [.ref m, nV p0]).set 2 (some (.ref c))) := ⟨rfl, rfl, rfl, trivial⟩
  refine run_asgQ (run_lstQ (run_args (EVA.cons (EV.var (i := 1) rfl) EVA.nil) ok1 fr1 fun ws H2 s2 p2 fr2 => ⟨by rw [← p2.len]; show 1 ≤ sizeLine; decide, fun q hq => ?_⟩))
  obtain ⟨w1, rfl, pw⟩ := al1 p2
  cases pw
  have hqM := s2.2.nM hq
  have ok3 := s2.2.own (o := .lst ([p0].map nV)) (n := trivial) hq
  have v3 : ((F1 [] s0).own q (.lst ([p0].map nV)) trivial).v (upd H2 q (.lst ([p0].map nV))) = (F1 [] s0).v H2 := own_v s2.2 hq
  let FF : List (Nat × Nat) → List Nat → MtSt → Wd := fun cm wt s => (F1 cm s).own q (.lst (wt.map nV)) trivial
  have hcq : c ≠ q := fun z => hqM (by rw [← z]; exact List.mem_cons_self)
  have hcF : ∀ s, c ∉ (F s).M := fun s => by rw [L.M s s0]; exact hcM
  have hqF : ∀ cm s, q ∉ (F1 cm s).M := fun cm s => by
    show q ∉ c :: (F s).M
    rw [L.M s s0]; exact hqM
  have LL : ∀ cm wt, LensM T R m d1 d2 (FF cm wt) := fun cm wt => Lens.own (s := s0) (Lens.own (s := s0) L hcM) (hqF cm s0)
  have hasM : ∀ cm wt s, HasM T R m d1 d2 s (FF cm wt s) := fun cm wt s => (LL cm wt).has
  have atC : ∀ cm wt s H, (FF cm wt s).ok H → DAt c cm H := fun cm wt s H o => o.1.2
  have atQ : ∀ cm wt s H, (FF cm wt s).ok H → H q = some (.lst (wt.map nV)) := fun cm wt s H o => o.2
  have putC : ∀ cm cm' wt s H, (FF cm wt s).ok H → (FF cm' wt s).ok (upd H c (.dK (kvN cm'))) ∧ (FF cm' wt s).v (upd H c (.dK (kvN cm'))) = (FF cm wt s).v H := fun cm cm' wt s H o => by
    have e : (FF cm' wt s).v (upd H c (.dK (kvN cm'))) = (FF cm wt s).v H := vis_upd_in (List.mem_cons_of_mem _ List.mem_cons_self)
    refine ⟨?_, e⟩
    show ((F s).Φ ((FF cm' wt s).v _) _ ∧ _) ∧ _
    rw [e]
    exact ⟨⟨(F s).mo o.1.1 (Xt.refl _) fun a ha => upd_ne fun z => hcF s (by rw [← z]; exact ha), upd_same⟩, by rw [upd_ne hcq.symm]; exact o.2⟩
  have putQ : ∀ cm wt wt' s H, (FF cm wt s).ok H → (FF cm wt' s).ok (upd H q (.lst (wt'.map nV))) ∧ (FF cm wt' s).v (upd H q (.lst (wt'.map nV))) = (FF cm wt s).v H := fun cm wt wt' s H o => ⟨o.put (hqF cm s), own_put (n := trivial)⟩
  let g := lk s0.2
  let f := lk s0.1
  let GG : Ctx := [some (Ty.is (.ref m)), some (tN p0), some (Ty.is (.ref c)), some (Ty.is (.ref q)), none, none]
  let Wm : Nat → L2.St → Hp → Prop := fun n σ H' => ∃ (cm : List (Nat × Nat)) (k : Nat), n = 5 - k ∧ Bfs R f g p0 cm k ∧ k ≤ cm.length + 1 ∧ (FF cm ((visL g p0 cm).drop k) s0).ok H' ∧ Xt ((F s0).v H) ((FF cm ((visL g p0 cm).drop k) s0).v H') ∧ Fr ((FF cm ((visL g p0 cm).drop k) s0).v H') GG σ
  have w0 : Wm 5 (((L2.start n_Matching_seat [.ref m, nV p0]).set 2 (some (.ref c))).set 3 (some (.ref q))) (upd H2 q (.lst ([p0].map nV))) := by
    refine ⟨[], 0, rfl, Bfs.start, Nat.zero_le _, ok3, ?_, ?_⟩
    · show Xt _ (((F1 [] s0).own q (.lst ([p0].map nV)) trivial).v _)
      rw [v3]
      refine Xt.trans ?_ s2.1
      show Xt _ (((F s0).own c (.dK (kvN [])) trivial).v (upd H c (.dK (kvN []))))
      rw [v1]
      exact Xt.refl _
    · show Fr (((F1 [] s0).own q (.lst ([p0].map nV)) trivial).v _) _ _
      rw [v3]
      exact fr2.set (T := Ty.is (.ref q)) rfl 3
  refine run_seq ⟨Wm, ⟨5, w0⟩, ?_⟩
  rintro n σ H4 ⟨cm, k, rfl, B, hk, ok4, x4, fr4⟩
  refine (EVT.B (EV.op (EV.lenOwn (K := K) (EV.var (i := 3) rfl) (atQ cm _ s0) (List.length_map _)) EV.cst RV.I0)).run ok4 fr4 fun H5 s5 => ?_
  have fr5 := fr4.mo s5.1
  rw [List.length_drop, visL_len]
  have hvnd := B.vnd hI hp0
  have hvlt := B.lt hI hpl
  have hvn := nodup_lt hvnd hvlt
  rw [visL_len] at hvn
  by_cases hkk : k ≤ cm.length
  · rw [show decide (((cm.length + 1 - k : Nat) : Int) > (0 : Int)) = true from decide_eq_true (by omega)]
    refine iteT ?_
    obtain ⟨h, hh⟩ : ∃ h, (visL g p0 cm)[k]? = some h := ⟨_, List.getElem?_eq_getElem (by rw [visL_len]; omega)⟩
    have hhl : h < R.length := hvlt h (List.mem_of_getElem? hh)
    have hdrop : (visL g p0 cm).drop k = h :: (visL g p0 cm).drop (k + 1) := by
      obtain ⟨a, b⟩ := List.getElem?_eq_some_iff.mp hh
      rw [← b]
      exact List.drop_eq_getElem_cons a
    refine ⟨fun σ' H' => Wm (5 - (k + 1)) σ' H', fun σ' H' z => ⟨_, by omega, z⟩, ?_⟩
    refine run_asgQ (run_bm (EV.var (i := 3) rfl) s5.2 fr5 fun H6 s6 fr6 => ⟨.inl ⟨rfl, _, SqL.of (atQ _ _ _ _ s6.2)⟩, run_args (EVA.cons EV.cst EVA.nil) s6.2 fr6 fun zs H7 s7 p7 fr7 => ?_⟩)
    obtain ⟨z, rfl, pz⟩ := al1 p7
    cases pz
    refine ⟨q, _, 0, 0, nV h, rfl, rfl, atQ _ _ _ _ s7.2, by decide, by decide, ?_, ?_, ?_⟩
    · rw [hdrop]; exact seqIndex?_zero (by simp)
    · rw [hdrop]; rfl
    rw [hdrop] at s7 fr7
    obtain ⟨ok8, v8⟩ := putQ cm _ ((visL g p0 cm).drop (k + 1)) s0 H7 s7.2
    have e8 : ((((visL g p0 cm).drop k).map nV).eraseIdx 0) = ((visL g p0 cm).drop (k + 1)).map nV := by rw [hdrop]; rfl
    rw [e8]
    have x8 : Xt ((F s0).v H) ((FF cm ((visL g p0 cm).drop (k + 1)) s0).v (upd H7 q (.lst (((visL g p0 cm).drop (k + 1)).map nV)))) := by
      rw [v8]
      refine Xt.trans ?_ s7.1
      rw [← hdrop]
      exact x4.trans (s5.trans s6).1
    rw [← v8] at fr7
    have fr8 := fr7.set (T := tN h) (v := nV h) rfl 4
    let GH : Ctx := [some (Ty.is (.ref m)), some (tN p0), some (Ty.is (.ref c)), some (Ty.is (.ref q)), some (tN h), none]
    have hrow : R[h]? = some (R.getD h []) := getD_some hhl
    refine (EVI.tup (EV.ixT (EV.mrows (hasM cm _ s0) (EV.var (i := 0) rfl)) (EV.var (i := 4) (G := GH) rfl) rfl (by rw [List.getElem?_map, hrow]; rfl))).run ok8 fr8 fun J H9 gd s9 hg9 I => ?_
    let r := R.getD h []
    let Wf : Nat → Nat → L2.St → Hp → Prop := fun i n σ H' => n = r.length - i ∧ i ≤ r.length ∧ ∃ cm', Bfs R f g p0 cm' k ∧ k ≤ cm'.length ∧ (visL g p0 cm')[k]? = some h ∧ (∀ x ∈ r.take i, x ∈ cm'.map (·.1)) ∧ (FF cm' ((visL g p0 cm').drop (k + 1)) s0).ok H' ∧
      Xt ((FF cm ((visL g p0 cm).drop (k + 1)) s0).v H9) ((FF cm' ((visL g p0 cm').drop (k + 1)) s0).v H') ∧ Fr ((FF cm' ((visL g p0 cm').drop (k + 1)) s0).v H') GH σ
    refine ⟨Wf, ⟨r.length, rfl, Nat.zero_le _, cm, B, hkk, hh, by simp, s9.2, Xt.refl _, fr8.mo s9.1⟩, ?_⟩
    rintro i n σ9 Ha ⟨rfl, hil, cm', B', hk', hh', hall, oka, xa, fra⟩
    have gA := I.mo hg9 xa
    by_cases hlt : i < r.length
    · refine .inr ⟨I.go gA (vis_sub _ _) (by rw [List.length_map]; exact hlt), fun σ' H' => ∃ n, Wf (i + 1) n σ' H', ?_, fun y Hb hy => ?_⟩
      · rintro σ' H' ⟨n, rfl, z⟩
        exact ⟨_, by omega, rfl, z⟩
      have hri : r[i]? = some r[i] := List.getElem?_eq_getElem hlt
      obtain ⟨xb, py⟩ := I.yld oka gA (by rw [List.getElem?_map, hri]; rfl) hy
      cases py
      have sb := oka.pure xb
      have frb := (fra.mo sb.1).set (T := tN r[i]) (v := nV r[i]) rfl 5
      have htk : r.take (i + 1) = r.take i ++ [r[i]] := by rw [List.take_succ, hri]; rfl
      refine run_ifE (b := decide (r[i] ∉ cm'.map (·.1))) (EVT.eq (EVT.B (EV.dnin (EV.var (i := 2) rfl) (EV.var (i := 5) rfl) (atC cm' _ s0))) (lookup_dec _ _)) sb.2 frb (fun hb Hc sc frc => ?_) (fun hb Hc sc frc => ?_)
      · have hx : r[i] ∉ cm'.map (·.1) := of_decide_eq_true hb
        have hcl : cm'.length ≤ 4 := by
          have := (B'.vnd hI hp0)
          have := nodup_lt this (B'.lt hI hpl)
          rw [visL_len] at this
          omega
        have ht : r[i] ∈ R.getD h [] := List.getElem_mem hlt
        refine run_seq (run_dput (EV.var (i := 2) rfl) (EV.var (i := 5) rfl) (EV.var (i := 4) rfl) (atC cm' _ s0) (by omega) sc.2 frc fun Hd sd frd => ?_)
        rw [putN_new hx]
        obtain ⟨oke, ve⟩ := putC cm' (cm' ++ [(r[i], h)]) _ s0 Hd sd.2
        rw [← ve] at frd
        refine run_ifb (b := decide (r[i] ∉ s0.2.map (·.1))) (EVT.eq (EVT.B (EV.dnin (EV.mown (hasM _ _ s0) (EV.var (i := 0) rfl)) (EV.var (i := 5) rfl) ((hasM _ _ s0).d2))) (lookup_dec _ _)) oke frd (fun hf Hf sf frf => ?_) (fun hf Hf sf frf => run_next ?_)
        · have hf := of_decide_eq_true hf
          have hg : g r[i] = none := lookup_none hf
          obtain ⟨C, fv⟩ := B'.chain hI hp0 hx hk' hh' ht
          have hi0 : cm'.length < (cm' ++ [(r[i], h)]).length := by simp
          have e0 : (cm' ++ [(r[i], h)])[cm'.length] = (r[i], h) := by rw [List.getElem_append_right (Nat.le_refl _)]; simp
          refine run_assoc (run_seq (run_dropQ ?_))
          refine run_meth sf.2 frf (EV.var (i := 0) rfl) ((hasM _ _ s0).ins (by decide +kernel)) (EVA.cons (EV.var (i := 5) rfl) (EVA.cons (EV.var (i := 2) rfl) (EVA.cons (EV.var (i := 1) rfl) EVA.nil))) fun vs Hg sg pg => ?_
          match vs, pg with
          | [a1, a2, a3], ⟨p1, p2, p3, _⟩ =>
            cases p1; cases p2; cases p3
            refine ⟨FF (cm' ++ [(r[i], h)]) ((visL g p0 cm').drop (k + 1)), s0, R, m, d1, d2, c, cm' ++ [(r[i], h)], cm'.length, hi0, visL g p0 cm', p0, LL _ _, hne, fun s H o => o.1.2, hR, M, C, fun y hy => ?_, by rw [e0]; exact hI.start hg, fv, hp0, hpl, sg.2, by rw [e0]; rfl, fun s' H' M' I' hdom ok' x' => ?_⟩
            · have := B'.lt hI hpl y hy
              omega
            · have ok'' : (F s').ok H' := ok'.show_.show_
              have sub : Xt ((FF (cm' ++ [(r[i], h)]) ((visL g p0 cm').drop (k + 1)) s').v H') ((F s').v H') := own_sub.trans own_sub
              refine kq s' H' M' I' hdom ok'' ?_
              refine Xt.trans ?_ sub
              refine Xt.trans ?_ x'
              refine Xt.trans ?_ (sf.trans sg).1
              rw [ve]
              exact ((((x8.trans s9.1).trans xa).trans sb.1).trans sc.1).trans sd.1
        · have hf : r[i] ∈ s0.2.map (·.1) := Decidable.of_not_not (of_decide_eq_false hf)
          obtain ⟨o, ho⟩ := lookup_some hf
          have hg : g r[i] = some o := ho
          refine run_dropQ (run_bm (EV.var (i := 3) rfl) sf.2 frf fun Hg sg frg => ⟨.inl ⟨rfl, _, SqL.of (atQ _ _ _ _ sg.2)⟩, run_args (EVA.cons (EV.dget (EV.mown (hasM _ _ s0) (EV.var (i := 0) rfl)) (EV.var (i := 5) rfl) ((hasM _ _ s0).d2) ho) EVA.nil) sg.2 frg fun zs Hh sh ph frh => ?_⟩)
          obtain ⟨z, rfl, pz⟩ := al1 ph
          cases pz
          refine ⟨q, _, _, rfl, rfl, atQ _ _ _ _ sh.2, szlt ?_, ?_⟩
          · rw [List.length_map, List.length_drop, visL_len]; omega
          have B2 := B'.add hx hg hk' hh' ht
          have ev : visL g p0 (cm' ++ [(r[i], h)]) = visL g p0 cm' ++ [o] := by rw [visL_app, hg]; rfl
          have ed : (visL g p0 (cm' ++ [(r[i], h)])).drop (k + 1) = (visL g p0 cm').drop (k + 1) ++ [o] := by
            rw [ev, List.drop_append_of_le_length (by rw [visL_len]; omega)]
          obtain ⟨okj, vj⟩ := putQ (cm' ++ [(r[i], h)]) _ ((visL g p0 cm').drop (k + 1) ++ [o]) s0 Hh sh.2
          have em : ((visL g p0 cm').drop (k + 1)).map nV ++ [V.int (o : Int)] = ((visL g p0 cm').drop (k + 1) ++ [o]).map nV := by rw [List.map_append]; rfl
          rw [em]
          refine ⟨_, rfl, hlt, cm' ++ [(r[i], h)], B2, by rw [List.length_append]; omega, by rw [ev]; exact app_get hh', fun y hy => ?_, by rw [ed]; exact okj, ?_, ?_⟩
          · rw [htk] at hy
            rw [List.map_append]
            rcases List.mem_append.mp hy with hy | hy
            · exact List.mem_append_left _ (hall y hy)
            · rw [List.mem_singleton.mp hy]; exact List.mem_append_right _ (by simp)
          · rw [ed, vj]
            refine Xt.trans ?_ ((sf.trans sg).trans sh).1
            rw [ve]
            exact ((xa.trans sb.1).trans sc.1).trans sd.1
          · rw [ed, vj]
            exact Fr.unset (i := 5) frh rfl
      · have hx : r[i] ∈ cm'.map (·.1) := Decidable.of_not_not (of_decide_eq_false hb)
        refine ⟨_, rfl, hlt, cm', B', hk', hh', fun y hy => ?_, sc.2, (xa.trans sb.1).trans sc.1, Fr.unset (i := 5) frc rfl⟩
        rw [htk] at hy
        rcases List.mem_append.mp hy with hy | hy
        · exact hall y hy
        · rw [List.mem_singleton.mp hy]; exact hx
    · have e : i = r.length := by omega
      subst e
      refine .inl ⟨by have := I.stop gA (vis_sub _ _); rwa [List.length_map] at this, ?_⟩
      rw [List.take_of_length_le (Nat.le_refl _)] at hall
      refine ⟨cm', k + 1, rfl, B'.next hk' hh' hall, by omega, oka, (x8.trans s9.1).trans xa, Fr.unset (i := 4) (g := GG) (x := some (tN h)) fra rfl⟩
  · have ek : k = cm.length + 1 := by omega
    subst ek
    exact (B.full hI hp0 hpl hd).elim
end
end Fo
set_option Elab.async false
set_option linter.all false
set_option maxRecDepth 100000
set_option maxHeartbeats 1000000
namespace Fo
open PySem PySem.Spec PyProof.Rows L2
local macro_rules | `(tactic| walk_at "ev") => `(tactic| first
  | ((with_reducible apply EV.var); rfl)
  | (with_reducible exact EV.cst)
  | (with_reducible exact EVA.nil)
  | (with_reducible exact EVO.none)
  | ((with_reducible apply EVO.some); (· walk_at "ev"))
  | ((with_reducible apply EVA.cons); (· walk_at "ev"); (· walk_at "ev"))
  | ((with_reducible apply EV.op); (· walk_at "ev"); (· walk_at "ev"); (· walk_at "rv"))
  | ((with_reducible apply EV.un); (· walk_at "ev"); (· exact RU.neg))
  | ((with_reducible apply EV.chain); (· walk_at "ev"); (· walk_at "ev"); (· walk_at "rv"); (· walk_at "ev"); (· walk_at "rv"))
  | ((with_reducible apply EV.cb); (· walk_at "ev"); (· walk_at "rv"))
  | ((with_reducible apply EV.bits); (· walk_at "ev"))
  | ((with_reducible apply EV.slT); (· walk_at "ev"); (· walk_at "ev"); (· walk_at "ev"))
  | ((with_reducible apply EV.isN); (· walk_at "ev"))
  | ((with_reducible apply EV.notN); (· walk_at "ev"))
  | ((with_reducible apply EV.notV); (· walk_at "ev"))
  | ((with_reducible apply EV.andV); (· walk_at "ev"); (· intro _; walk_at "ev"))
  | ((with_reducible apply EVT.test); (· walk_at "ev"))
  | ((with_reducible apply EVT.B); (· walk_at "ev"))
  | ((with_reducible apply EVT.not); (· walk_at "ev"))
  | ((with_reducible apply EV.tup); (· walk_at "ev"); (· decide))
  | ((with_reducible apply EV.lst); (· walk_at "ev"); (· decide))
  | ((with_reducible apply EVI.list); (· walk_at "ev"))
  | ((with_reducible apply EVI.tup); (· walk_at "ev"))
  | ((with_reducible apply EVI.enum); (· walk_at "ev"))
  | ((with_reducible apply EVI.enumT); (· walk_at "ev"))
  | ((with_reducible apply EVI.zipT); (· walk_at "ev"); (· walk_at "ev")))
local macro_rules | `(tactic| walk_at "rv") => `(tactic| first
  | exact RV.I0
  | exact RV.oneShl (by decide)
  | exact RV.shrN
  | exact RV.odd
  | exact RC.isi_ii
  | exact RC.isi_ib
  | exact RC.isi_tt
  | exact RC.isi_ss
  | exact RC.lenT
  | exact RC.lenL
  | exact RC.sumF
  | exact RC.allF
  | exact RV.inTN
  | exact RV.inLN
  | exact RV.inTO
  | exact RC.tupOf
  | exact RC.lstOfT
  | exact RC.lstOfL
  | exact RC.int
  | exact RC.intB
  | exact RC.abs
  | exact RV.Eq rfl
  | exact RV.Ne rfl)
/-! ## Matching.__init__, can_be_dealt, Draw.__init__, copy -/
section
variable {P : Program} {w : World} {K : PySem.W.Frag} {mg : Str → Option Value} {base : Heap} {W : Wd} {G : Ctx}
/-- new things, hidden at once -/
theorem cell_new {A : List Addr} {C : Hp → Hp → Prop} {c : Cl A C} {B : List Addr} {H H' : Hp} (hM : ∀ {h H H'}, W.Φ h H → (∀ a ∈ W.M, H' a = H a) → W.Φ h H') (ok : W.Φ (vis (B ++ W.M) H) H) (h1 : ∀ x, x ∉ A → H' x = H x ∨ H x = none) (h2 : ∀ x ∈ A, x ∈ B ∨ H x = none) (h3 : ∀ x ∈ W.M, H' x = H x)
    (hc : C (vis (A ++ W.M) H') H') : (W.cell A C c).ok H' ∧ Xt (vis (B ++ W.M) H) ((W.cell A C c).v H') := by
  have x : Xt (vis (B ++ W.M) H) (vis (A ++ W.M) H') := fun a o e => by
    obtain ⟨n, e⟩ := vis_some e
    have nA : a ∉ A := fun z => (h2 a z).elim (fun q => n (List.mem_append_left _ q)) fun q => by rw [q] at e; cases e
    show vis (A ++ W.M) H' a = some o
    rw [vis_eq (fun z => (List.mem_append.mp z).elim nA fun q => n (List.mem_append_right _ q))]
    rcases h1 a nA with q | q
    · rw [q]; exact e
    · rw [q] at e; cases e
  exact ⟨⟨W.mo ok x h3, hc⟩, x⟩
def spMat (T : Tp K mg) : Sp := fun vs H Q _ => ∃ (R : List (List Nat)) (d : List Nat) (W : Wd) (p dx : Addr) (rv : V), RowsOk R ∧ Deal R d ∧ p ∉ W.M ∧ vs = [.ref p, rv] ∧ (W.own p (.ins T.Matching.C dx []) trivial).ok H ∧ (tRows R).p ((W.own p (.ins T.Matching.C dx []) trivial).v H) rv ∧
  ∀ l dx2 H' fs, W.ok H' → Xt ((W.own p (.ins T.Matching.C dx []) trivial).v H) (W.v H') → H' p = some (.ins T.Matching.C dx2 fs) → fs.lookup ("left" : Str) = some (.ref l) → H' l = some (.lst []) → l ∉ W.M → Q .non H'
theorem lk44 {a b c d : V} : List.lookup ("left" : Str) ([("rows", a), ("of", b), ("owner", c), ("left", d)] : List (Str × V)) = some d := by
  have h1 : (("left" : Str) == ("rows" : Str)) = false := by decide +kernel
  have h2 : (("left" : Str) == ("of" : Str)) = false := by decide +kernel
  have h3 : (("left" : Str) == ("owner" : Str)) = false := by decide +kernel
  simp [List.lookup, h1, h2, h3]
theorem putF4 {k1 k2 k3 k4 : Str} {a b c d : V} (h : ¬ k1 = k4) (h' : ¬ k2 = k4) (h'' : ¬ k3 = k4) : putF k4 d [(k1, a), (k2, b), (k3, c)] = [(k1, a), (k2, b), (k3, c), (k4, d)] := by
  show (if k1 = k4 then _ else _) = _
  rw [if_neg h]
  show (k1, a) :: (if k2 = k4 then _ else _) = _
  rw [if_neg h']
  show (k1, a) :: (k2, b) :: (if k3 = k4 then _ else _) = _
  rw [if_neg h'']
  rfl
theorem ok_Matching_init (T : Tp K mg) : FnOk P w K mg base CX0 3 T.Matching.a T.Matching.fd p_Matching_init (spMat T) := by
  refine T.Matching.F.ok sc_Matching_init (fun vs H Q E h => ?_) (fun cdv A outer s H vs Q E hr h => ?_)
  · obtain ⟨R, d, W, p, dx, rv, _, _, _, rfl, _⟩ := h
    rfl
  obtain ⟨R, d, W, p, dx, rv, hR, hd, hp, rfl, ok, pr, kq⟩ := h
  have nd := sc_Matching_init.nd
  refine ⟨_, (pss_cons (ps_fld (pv 0) (pv 1) rfl) (pss_cons (ps_fld (pv 0) pe_dnewK rfl) (pss_cons (ps_fld (pv 0) pe_dnewK rfl) (pss_one (ps_fld (pv 0) (pe_lc (own := [("person", 2)]) rfl nd (pi_range1 (by rfl) T.b_range (pa_cons (pe_callB call_len_seq (by rfl) T.b_len PySem.boot_len (pa_cons (pv 1) pa_nil)) pa_nil)) (blkOk_by (own := [("person", 2)]) (N := n_Matching_init) (sc := defScope s_Matching_init) (by decide +kernel)) (fun _ _ _ _ _ => (pg_name (i := 2) nd rfl (Or.inl rfl))) (fun _ _ _ _ _ => (pts_one (pt_not (pt_val (pe_meth (pv 0) T.Matching.cl T.Matching_seat.mt (ok_seat T) (hr.mono (by first | decide | omega)) T.Matching_seat.b .nil pass0 (pa_cons (pv 2) pa_nil)))))) (fun _ _ _ _ _ => (pv 2))) rfl))))), ?_⟩
  refine fld_seq (G := [some (Ty.is (.ref p)), some (tRows R), none]) (T := tRows R) hp rfl ok ⟨rfl, pr, trivial⟩ (by walk_at "ev") T.Matching.cl (T.Matching.na _ (by decide +kernel)) (by show 0 < 1000; decide) fun rv2 Ha oka xa pra => ?_
  have hpa : Ha p = some (.ins T.Matching.C dx [("rows", rv2)]) := oka.at
  refine run_seq (run_fldQ (run_dnewQ fun d1 h1 => ?_))
  have n1 : d1 ≠ p := fun z => by rw [z] at h1; rw [h1] at hpa; cases hpa
  refine ⟨.ref p, rfl, p, _, dx, _, rfl, by rw [upd_ne n1.symm]; exact hpa, T.Matching.cl, T.Matching.na _ (by decide +kernel), by show 1 < 1000; decide, ?_⟩
  rw [show putF "of" (.ref d1) [("rows", rv2)] = ([("rows", rv2), ("of", .ref d1)] : List (Str × V)) from putF2 (by decide +kernel)]
  refine run_seq (run_fldQ (run_dnewQ fun d2 h2 => ?_))
  have n2 : d2 ≠ p := fun z => by rw [z, upd_same] at h2; cases h2
  rw [upd_ne n2] at h2
  have n12 : d2 ≠ d1 := fun z => by rw [z, upd_same] at h2; cases h2
  rw [upd_ne n12] at h2
  refine ⟨.ref p, rfl, p, _, dx, _, rfl, by rw [upd_ne n2.symm, upd_same], T.Matching.cl, T.Matching.na _ (by decide +kernel), by show 2 < 1000; decide, ?_⟩
  rw [show putF "owner" (.ref d2) [("rows", rv2), ("of", .ref d1)] = ([("rows", rv2), ("of", .ref d1), ("owner", .ref d2)] : List (Str × V)) from putF3 (by decide +kernel) (by decide +kernel)]
  let Hb : Hp := upd (upd (upd (upd Ha d1 (.dK [])) p (.ins T.Matching.C dx [("rows", rv2), ("of", .ref d1)])) d2 (.dK [])) p (.ins T.Matching.C dx [("rows", rv2), ("of", .ref d1), ("owner", .ref d2)])
  let F : MtSt → Wd := fun s => W.cell [p, d1, d2] (MtAt T R p d1 d2 s) MtAt.cl
  have m1 : d1 ∉ W.M := fun z => by obtain ⟨o, e, _⟩ := W.al oka.1 z; rw [h1] at e; cases e
  have m2 : d2 ∉ W.M := fun z => by obtain ⟨o, e, _⟩ := W.al oka.1 z; rw [h2] at e; cases e
  have hother : ∀ x, x ≠ p → x ≠ d1 → x ≠ d2 → Hb x = Ha x := fun x a b c => by
    show upd (upd (upd (upd Ha d1 _) p _) d2 _) p _ x = _
    rw [upd_ne a, upd_ne c, upd_ne a, upd_ne b]
  have vv : vis ([p, d1, d2] ++ W.M) Hb = vis (p :: W.M) Ha := by
    funext x
    by_cases hx : x ∈ p :: W.M
    · rw [vis_in hx, vis_in (by rcases List.mem_cons.mp hx with e | e; · rw [e]; simp
                                · exact List.mem_append_right _ e)]
    · rw [vis_eq hx]
      by_cases e1 : x = d1
      · rw [e1, vis_in (by simp), h1]
      · by_cases e2 : x = d2
        · rw [e2, vis_in (by simp), h2]
        · have e0 : x ≠ p := fun z => hx (by rw [z]; simp)
          rw [vis_eq (fun z => by rcases List.mem_append.mp z with z | z; · simp at z; exact z.elim e0 fun z => z.elim e1 e2
                                  · exact hx (List.mem_cons_of_mem _ z)), hother x e0 e1 e2]
  have okb : (F ([], [])).ok Hb := by
    refine ⟨?_, dx, rv2, upd_same, ?_, ?_, ?_⟩
    · show W.Φ (vis ([p, d1, d2] ++ W.M) Hb) Hb
      rw [vv]
      exact W.mo oka.1 (Xt.refl _) fun x hx => hother x (fun z => hp (by rw [← z]; exact hx)) (fun z => m1 (by rw [← z]; exact hx)) (fun z => m2 (by rw [← z]; exact hx))
    · show (tRows R).p (vis ([p, d1, d2] ++ W.M) Hb) rv2
      rw [vv]; exact pra
    · show upd (upd (upd (upd Ha d1 _) p _) d2 _) p _ d1 = _
      rw [upd_ne n1, upd_ne n12.symm, upd_ne n1, upd_same]; rfl
    · show upd (upd (upd (upd Ha d1 _) p _) d2 _) p _ d2 = _
      rw [upd_ne n2, upd_same]; rfl
  have L : LensM T R p d1 d2 F := Lens.top (fun _ => MtAt.cl) fun x hx => by
    simp at hx
    rcases hx with e | e | e
    · rw [e]; exact hp
    · rw [e]; exact m1
    · rw [e]; exact m2
  have xb : Xt ((W.own p (.ins T.Matching.C dx []) trivial).v H) ((F ([], [])).v Hb) := by
    show Xt _ (vis ([p, d1, d2] ++ W.M) Hb)
    rw [vv]; exact xa
  have frb : Fr ((F ([], [])).v Hb) [some (Ty.is (.ref p)), some (tRows R), none] (L2.start n_Matching_init [.ref p, rv]) := ⟨rfl, (tRows R).mo xb pr, trivial⟩
  refine run_fldQ (run_lcM (F := F) (s0 := ([], [])) (fun s s' => L.M s s') (List.range R.length) tN _ (fun i s ts => ts = [] ∧ MOk R s ∧ MInv R (lk s.1) (lk s.2) ∧ ∀ q, (lk s.1 q).isSome = decide (q < i)) (EVI.rng1 (EVA.cons (EV.eq (EV.cb (EVA.cons (EV.var (i := 1) rfl) EVA.nil) RC.lenT) (by rw [List.length_map])) EVA.nil) (by have := hR.2.1; omega)) (fun a _ => GT.name (by decide)) ⟨rfl, ⟨⟨List.nodup_nil, fun k h => by cases h⟩, ⟨List.nodup_nil, fun k h => by cases h⟩⟩, ⟨fun q t e => (by cases e), fun t q e => (by cases e)⟩, fun q => rfl⟩ (by rw [List.length_range]; have := hR.2.1; omega) (fun i s ts h => by rw [h.1]; exact Nat.zero_le _) (fun D acc i a s ts σ Hc N hD ha hj okc frc kT kF => ?_) okb frb fun v Hd s ts hj okd xd pv => ?_)
  · obtain ⟨rfl, hM, hI, hdom⟩ := hj
    obtain ⟨hi, e⟩ := List.getElem?_eq_some_iff.mp ha
    rw [List.getElem_range] at e
    subst e
    rw [List.length_range] at hi
    have hni : lk s.1 i = none := by
      have := hdom i
      rw [decide_eq_false (Nat.lt_irrefl i)] at this
      cases e : lk s.1 i with
      | none => rfl
      | some z => rw [e] at this; cases this
    have LD : LensM T R p d1 d2 (fun s => (F s).own D (.lst acc) trivial) := Lens.own L hD
    refine run_meth okc frc (EV.var (i := 0) rfl) (HasM.ins (LD.has (s := s)) (by decide +kernel)) (EVA.cons (EV.var (i := 2) rfl) EVA.nil) fun vs He se pe => ?_
    obtain ⟨z, rfl, pz⟩ := al1 pe
    cases pz
    refine ⟨fun s => (F s).own D (.lst acc) trivial, s, R, p, d1, d2, i, d, LD, n12.symm, hR, hM, hI, hni, hi, hd, se.2, rfl, fun s' H' M' I' hdom' ok' x' => ?_⟩
    refine ⟨true, rfl, kF H' s' ⟨rfl, M', I', fun q => ?_⟩ ok' (se.1.trans x')⟩
    rw [hdom', hdom, ← Bool.decide_or]
    exact decide_eq_decide.mpr (by omega)
  · obtain ⟨rfl, hM, hI, hdom⟩ := hj
    obtain ⟨l, vs, rfl, hl, al⟩ := pv
    cases vs with
    | cons _ _ => exact al.elim
    | nil =>
      obtain ⟨dx2, rv3, e1, pr3, e2, e3⟩ := L.at okd
      refine ⟨.ref p, rfl, p, _, dx2, _, rfl, e1, T.Matching.cl, T.Matching.na _ (by decide +kernel), by show 3 < 1000; decide, ?_⟩
      rw [show putF "left" (.ref l) [("rows", rv3), ("of", .ref d1), ("owner", .ref d2)] = ([("rows", rv3), ("of", .ref d1), ("owner", .ref d2), ("left", .ref l)] : List (Str × V)) from putF4 (by decide +kernel) (by decide +kernel) (by decide +kernel)]
      obtain ⟨nl, hl2⟩ := vis_some hl
      have hlp : l ≠ p := fun z => nl (by rw [z]; exact List.mem_append_left _ (by simp))
      have xo : Xt ((F s).v Hd) (W.v (upd Hd p (.ins T.Matching.C dx2 [("rows", rv3), ("of", .ref d1), ("owner", .ref d2), ("left", .ref l)]))) := fun a o e => by
        obtain ⟨na, e⟩ := vis_some e
        show vis W.M _ a = some o
        rw [vis_eq (fun z => na (List.mem_append_right _ z)), upd_ne (fun z => na (by rw [z]; exact List.mem_append_left _ (by simp)))]
        exact e
      refine kq l dx2 _ _ (W.mo okd.1 xo fun x hx => upd_ne fun z => hp (by rw [← z]; exact hx)) ((xb.trans xd).trans xo) upd_same lk44 (by rw [upd_ne hlp]; exact hl2) fun z => nl (List.mem_append_right _ z)
theorem EV.left {T : Tp K mg} {E : XK} {te : TE} {R : List (List Nat)} {d : List Nat} (h : EV W G te (tRows R)) (hR : RowsOk R) (hd : Deal R d) : EV W G (tFld K (tMake T.Matching.C (spMat T) [] E (tCons te tNil)) "left") (Ty.lst []) := ⟨fun {σ H Q} okW fr k =>
  h.run okW fr fun v H1 s1 p1 => by
    intro x dx hx hdx hne
    have s2 := s1.2.new (o := .own x) hdx
    have hx2 : upd H1 dx (.own x) x = none := by rw [upd_ne hne.symm]; exact hx
    have ok3 : (W.own x (.ins T.Matching.C dx []) trivial).ok (upd (upd H1 dx (.own x)) x (.ins T.Matching.C dx [])) := s2.2.own hx2
    have v3 : (W.own x (.ins T.Matching.C dx []) trivial).v (upd (upd H1 dx (.own x)) x (.ins T.Matching.C dx [])) = W.v (upd H1 dx (.own x)) := own_v s2.2 hx2
    refine ⟨R, d, W, x, dx, v, hR, hd, s2.2.nM hx2, rfl, ok3, by rw [v3]; exact (tRows R).mo s2.1 p1, fun l dx2 H' fs ok4 x4 e4 l4 m4 n4 => ⟨rfl, x, _, dx2, fs, .ref l, rfl, e4, T.Matching.cl, T.Matching.na _ (by decide +kernel), l4, ?_⟩⟩
    rw [v3] at x4
    refine k _ H' ⟨(s1.1.trans s2.1).trans x4, ok4⟩ ⟨l, [], rfl, ?_, trivial⟩
    rw [Wd.v, vis_eq n4]; exact m4⟩
abbrev sp_cbd : Sp := pSp (fun i : List (List Nat) × List Nat => [tRows i.1]) (fun i => RowsOk i.1 ∧ Deal i.1 i.2) (fun _ => tBl true)
theorem ok_can_be_dealt (T : Tp K mg) : FnOk P w K mg base CX0 5 T.can_be_dealt.a T.can_be_dealt.fd p_can_be_dealt sp_cbd :=
  pure_ok T.can_be_dealt.F sc_can_be_dealt (fun _ => rfl) fun cdv A outer s H E hr => by
    have nd := sc_can_be_dealt.nd
    refine ⟨_, (pss_one (ps_ret (pe_cmpR op_eq (pe_callB call_len_seq (by rfl) T.b_len PySem.boot_len (pa_cons (pe_fld (pe_make T.Matching.mkk (ok_Matching_init T) (hr.mono (by first | decide | omega)) rfl T.Matching.m T.Matching.b .nil pass0 (pa_cons (pv 0) pa_nil)) rfl) pa_nil)) pe_int (nomark _)))), fun W i hi => ?_⟩
    exact ST.retTo (EV.op (EV.cb (EVA.cons (EV.left (EV.var rfl) hi.1 hi.2) EVA.nil) RC.lenL) EV.cst (RV.Eq rfl)) rfl
abbrev sp_stuck (T : Tp K mg) : Sp := pSp (fun i : List (List Nat) × List Nat => [tTab T i.1]) (fun i => RowsOk i.1 ∧ Deal i.1 i.2) (fun _ => tNon)
theorem ok_check_stuck (T : Tp K mg) : FnOk P w K mg base CX0 6 T.check_stuck.a T.check_stuck.fd p_check_stuck (sp_stuck T) :=
  pure_ok T.check_stuck.F sc_check_stuck (fun _ => rfl) fun cdv A outer s H E hr => by
    have nd := sc_check_stuck.nd
    refine ⟨_, (pss_one (ps_if (pt_not (pt_val (pe_call (ok_can_be_dealt T) (hr.mono (by first | decide | omega)) rfl T.can_be_dealt.m T.can_be_dealt.F.kp T.can_be_dealt.b .nil pass0 (pa_cons (pe_fld (pv 0) rfl) pa_nil)))) (pss_one ps_never) pss_nil)), fun W i hi => ?_⟩
    exact ST.if1 (b := false) (EVT.eq (EVT.not (EVT.B (EV.call i (EVA.cons (EV.fld (EV.var rfl) (has_rows T i.1)) EVA.nil) hi))) rfl) (fun h => by cases h) fun _ => ST.next fun _ => rfl
/-! ### Draw.__init__ -/
def st0 (R : List (List Nat)) : St3 := (R, List.replicate R.length none, [])
def spDrw0 (T : Tp K mg) : Sp := fun vs H Q _ => ∃ (R : List (List Nat)) (d : List Nat) (W : Wd) (p dx : Addr) (tv : V), RowsOk R ∧ Deal R d ∧ p ∉ W.M ∧ vs = [.ref p, tv] ∧ (W.own p (.ins T.Draw.C dx []) trivial).ok H ∧ (tTab T R).p ((W.own p (.ins T.Draw.C dx []) trivial).v H) tv ∧
  ∀ pl H', pl ∉ W.M → (W.cell [p, pl] (DrAt T p pl (st0 R, [])) DrAt.cl).ok H' → Xt ((W.own p (.ins T.Draw.C dx []) trivial).v H) ((W.cell [p, pl] (DrAt T p pl (st0 R, [])) DrAt.cl).v H') → Q .non H'
theorem ok_Draw_init (T : Tp K mg) : FnOk P w K mg base CX0 7 T.Draw.a T.Draw.fd p_Draw_init (spDrw0 T) := by
  refine T.Draw.F.ok sc_Draw_init (fun vs H Q E h => ?_) (fun cdv A outer s H vs Q E hr h => ?_)
  · obtain ⟨R, d, W, p, dx, rv, _, _, _, rfl, _⟩ := h
    rfl
  obtain ⟨R, d, W, p, dx, tv, hR, hd, hp, rfl, ok, pt, kq⟩ := h
  have nd := sc_Draw_init.nd
  refine ⟨_, (pss_cons (ps_expr (pe_call (ok_check_stuck T) (hr.mono (by first | decide | omega)) rfl T.check_stuck.m T.check_stuck.F.kp T.check_stuck.b .nil pass0 (pa_cons (pv 1) pa_nil))) (pss_cons (ps_fld (pv 0) (pe_tup (pa_cons (pv 1) (pa_cons (pe_call (ok_nothing_drawn T) (hr.mono (by first | decide | omega)) rfl T.nothing_drawn.m T.nothing_drawn.F.kp T.nothing_drawn.b .nil pass0 (pa_cons (pv 1) pa_nil)) (pa_cons (pe_tup pa_nil) pa_nil)))) rfl) (pss_one (ps_fld (pv 0) (pe_lst pa_nil) rfl)))), ?_⟩
  have fr : Fr ((W.own p (.ins T.Draw.C dx []) trivial).v H) [some (Ty.is (.ref p)), some (tTab T R)] (L2.start n_Draw_init [.ref p, tv]) := ⟨rfl, pt, trivial⟩
  refine run_drop (EV.call (R, d) (EVA.cons (EV.var (i := 1) rfl) EVA.nil) ⟨hR, hd⟩) ok fr fun H1 s1 fr1 => ?_
  refine fld_seq (G := [some (Ty.is (.ref p)), some (tTab T R)]) (T := tTrip T (st0 R)) hp rfl s1.2 fr1 (EV.tup (EVA.cons (EV.var rfl) (EVA.cons (EV.call R (by walk_at "ev") hR) (EVA.cons (EV.tup EVA.nil (by show 0 ≤ 1000; decide)) EVA.nil))) (by show 3 ≤ 1000; decide)) T.Draw.cl (T.Draw.na _ (by decide +kernel)) (by show 0 < 1000; decide) fun nv H2 ok2 x2 p2 => ?_
  have hp2 : H2 p = some (.ins T.Draw.C dx [("now", nv)]) := ok2.at
  refine run_fldQ (run_lstQ ⟨Nat.zero_le _, fun pl hl => ?_⟩)
  have n1 : pl ≠ p := fun z => by rw [z] at hl; rw [hl] at hp2; cases hp2
  refine ⟨.ref p, rfl, p, _, dx, _, rfl, by rw [upd_ne n1.symm]; exact hp2, T.Draw.cl, T.Draw.na _ (by decide +kernel), by show 1 < 1000; decide, ?_⟩
  rw [show putF "past" (.ref pl) [("now", nv)] = ([("now", nv), ("past", .ref pl)] : List (Str × V)) from putF2 (by decide +kernel)]
  have m1 : pl ∉ W.M := fun z => by obtain ⟨o, e, _⟩ := W.al ok2.1 z; rw [hl] at e; cases e
  let H3 := upd (upd H2 pl (.lst [])) p (.ins T.Draw.C dx [("now", nv), ("past", .ref pl)])
  have hother : ∀ x, x ≠ p → x ≠ pl → H3 x = H2 x := fun x a b => by
    show upd (upd H2 pl _) p _ x = _
    rw [upd_ne a, upd_ne b]
  have vv : vis ([p, pl] ++ W.M) H3 = vis (p :: W.M) H2 := by
    funext x
    by_cases hx : x ∈ p :: W.M
    · rw [vis_in hx, vis_in (by rcases List.mem_cons.mp hx with e | e; · rw [e]; simp
                                · exact List.mem_append_right _ e)]
    · rw [vis_eq hx]
      by_cases e1 : x = pl
      · rw [e1, vis_in (by simp), hl]
      · have e0 : x ≠ p := fun z => hx (by rw [z]; simp)
        rw [vis_eq (fun z => by rcases List.mem_append.mp z with z | z; · simp at z; exact z.elim e0 e1
                                · exact hx (List.mem_cons_of_mem _ z)), hother x e0 e1]
  refine kq pl H3 m1 ⟨?_, dx, nv, [], upd_same, ?_, ?_, trivial⟩ ?_
  · show W.Φ (vis ([p, pl] ++ W.M) H3) H3
    rw [vv]
    exact W.mo ok2.1 (Xt.refl _) fun x hx => hother x (fun z => hp (by rw [← z]; exact hx)) (fun z => m1 (by rw [← z]; exact hx))
  · show (tTrip T (st0 R)).p (vis ([p, pl] ++ W.M) H3) nv
    rw [vv]; exact p2
  · show upd (upd H2 pl _) p _ pl = _
    rw [upd_ne n1, upd_same]
  · show Xt _ (vis ([p, pl] ++ W.M) H3)
    rw [vv]
    exact s1.1.trans x2
theorem run_makeD {T : Tp K mg} {E : XK} {te : TE} {R : List (List Nat)} {d : List Nat} {σ : L2.St} {H : Hp} {Q : VK} (h : EV W G te (tTab T R)) (hR : RowsOk R) (hd : Deal R d) (ok : W.ok H) (fr : Fr (W.v H) G σ)
    (k : ∀ a pl H', a ∉ W.M → pl ∉ W.M → (W.cell [a, pl] (DrAt T a pl (st0 R, [])) DrAt.cl).ok H' → Xt (W.v H) ((W.cell [a, pl] (DrAt T a pl (st0 R, [])) DrAt.cl).v H') → Q (.ref a) H') : tMake T.Draw.C (spDrw0 T) [] E (tCons te tNil) σ H Q :=
  h.run ok fr fun v H1 s1 p1 => by
    intro x dx hx hdx hne
    have s2 := s1.2.new (o := .own x) hdx
    have hx2 : upd H1 dx (.own x) x = none := by rw [upd_ne hne.symm]; exact hx
    have ok3 : (W.own x (.ins T.Draw.C dx []) trivial).ok (upd (upd H1 dx (.own x)) x (.ins T.Draw.C dx [])) := s2.2.own hx2
    have v3 : (W.own x (.ins T.Draw.C dx []) trivial).v (upd (upd H1 dx (.own x)) x (.ins T.Draw.C dx [])) = W.v (upd H1 dx (.own x)) := own_v s2.2 hx2
    refine ⟨R, d, W, x, dx, v, hR, hd, s2.2.nM hx2, rfl, ok3, by rw [v3]; exact (tTab T R).mo s2.1 p1, fun pl H' hpl ok4 x4 => ⟨rfl, k x pl H' (s2.2.nM hx2) hpl ok4 ?_⟩⟩
    rw [v3] at x4
    exact (s1.1.trans s2.1).trans x4
/-! ### copy -/
def spCopy (T : Tp K mg) : Sp := fun vs H Q _ => ∃ (W : Wd) (a pl : Addr) (s : DSt) (d : List Nat), HasD T a pl s W ∧ RowsOk s.1.1 ∧ Deal s.1.1 d ∧ W.ok H ∧ vs = [.ref a] ∧
  ∀ a2 pl2 H', a2 ∉ W.M → pl2 ∉ W.M → (W.cell [a2, pl2] (DrAt T a2 pl2 s) DrAt.cl).ok H' → Xt (W.v H) ((W.cell [a2, pl2] (DrAt T a2 pl2 s) DrAt.cl).v H') → Q (.ref a2) H'
theorem ok_Draw_copy (T : Tp K mg) : FnOk P w K mg base CX0 9 T.Draw_copy.a T.Draw_copy.fd p_Draw_copy (spCopy T) := by
  refine T.Draw_copy.F.ok sc_Draw_copy (fun vs H Q E h => ?_) (fun cdv A outer s H vs Q E hr h => ?_)
  · obtain ⟨W, a, pl, s, d, _, _, _, _, rfl, _⟩ := h
    rfl
  obtain ⟨W, a, pl, s, d, hD, hR, hd, ok, rfl, kq⟩ := h
  have nd := sc_Draw_copy.nd
  refine ⟨_, (pss_cons (ps_set (i := 1) nd rfl (Or.inl rfl) (pe_make T.Draw.mkk (ok_Draw_init T) (hr.mono (by first | decide | omega)) rfl T.Draw.m T.Draw.b .nil pass0 (pa_cons (pe_ix ix_tup (pe_fld (pv 0) rfl) pe_int (fun _ _ => rfl)) pa_nil))) (pss_cons (ps_fld (pv 1) (pe_fld (pv 0) rfl) rfl) (pss_cons (ps_fld (pv 1) (pe_callTy call_list_of (by rfl) T.b_list (by decide +kernel) (pa_cons (pe_fld (pv 0) rfl) pa_nil)) rfl) (pss_one (ps_ret (pv 1)))))), ?_⟩
  have fr : Fr (W.v H) [some (Ty.is (.ref a)), none] (L2.start n_Draw_copy [.ref a]) := ⟨rfl, trivial⟩
  refine run_asgQ (run_makeD (EV.ixT (j := 0) (EV.now hD (EV.var (i := 0) rfl)) EV.cst rfl rfl) hR hd ok fr fun a2 pl2 H1 ha2 hpl2 ok1 x1 => ?_)
  let F : DSt → Wd := fun s => W.cell [a2, pl2] (DrAt T a2 pl2 s) DrAt.cl
  have L : Lens F [a2, pl2] (DrAt T a2 pl2) := Lens.top (fun _ => DrAt.cl) fun x hx => by
    simp at hx
    rcases hx with e | e
    · rw [e]; exact ha2
    · rw [e]; exact hpl2
  have hD1 : ∀ s', HasD T a pl s (F s') := fun s' => Has.cell hD
  let G1 : Ctx := [some (Ty.is (.ref a)), some (Ty.is (.ref a2))]
  have fr1 : Fr ((F (st0 s.1.1, [])).v H1) G1 ((L2.start n_Draw_copy [.ref a]).set 1 (some (.ref a2))) := ⟨rfl, rfl, trivial⟩
  refine run_seq (run_fldQ (run_ev (EV.now (hD1 _) (EV.var (i := 0) (G := G1) rfl)) ok1 fr1 fun nv H2 s2 p2 fr2 => run_ev (EV.var (i := 1) (T := Ty.is (.ref a2)) rfl) s2.2 fr2 fun v3 H3 s3 p3 fr3 => ?_))
  cases p3
  obtain ⟨dx, nv3, pv3, f1, f2, f3, f4⟩ := L.at s3.2
  have f4 : Al _ [] pv3 := f4
  cases pv3 with
  | cons _ _ => exact f4.elim
  | nil =>
  have hne : a2 ≠ pl2 := fun z => by rw [z, f3] at f1; cases f1
  refine ⟨a2, _, dx, _, rfl, f1, T.Draw.cl, T.Draw.na _ (by decide +kernel), by show 2 < 1000; decide, ?_⟩
  rw [show putF "now" nv [("now", nv3), ("past", .ref pl2)] = ([("now", nv), ("past", .ref pl2)] : List (Str × V)) from if_pos rfl]
  obtain ⟨ok4, v4⟩ := L.write (s := (st0 s.1.1, [])) (s' := (s.1, [])) (H := H3) (H' := upd H3 a2 (.ins T.Draw.C dx [("now", nv), ("past", .ref pl2)])) s3.2 (fun x hx => upd_ne fun z => hx (by rw [z]; simp)) ⟨dx, nv, [], upd_same, (tTrip T s.1).mo s3.1 p2, by rw [upd_ne hne.symm]; exact f3, trivial⟩
  rw [← v4] at fr3
  dsimp only
  refine run_seq (run_fldQ ?_)
  refine run_ev (W := F (s.1, [])) (T := Ty.is (.ref pl)) (G := G1) (te := tFld K (tVar 0) "past") (EV.past (hD1 _) (EV.var rfl)) ok4 fr3 fun v5 H5 s5 p5 fr5 => ?_
  cases p5
  obtain ⟨dxa, nva, pva, g1, g2, g3, g4⟩ := (hD1 (s.1, [])).at s5.2
  refine ⟨pl, pva, rfl, .inl (SqL.of g3), fun l hl => ?_⟩
  have hlM := s5.2.nM hl
  obtain ⟨dx5, nv5, pv5, k1, k2, k3, k4⟩ := L.at s5.2
  have hla2 : l ≠ a2 := fun z => by rw [z] at hl; rw [hl] at k1; cases k1
  refine ⟨.ref a2, by have := fr5.get (i := 1) rfl; obtain ⟨v, e, p⟩ := this; cases p; exact e, a2, _, dx5, _, rfl, by rw [upd_ne hla2.symm]; exact k1, T.Draw.cl, T.Draw.na _ (by decide +kernel), by show 2 < 1000; decide, ?_⟩
  have hpp : putF "past" (.ref l) [("now", nv5), ("past", .ref pl2)] = ([("now", nv5), ("past", .ref l)] : List (Str × V)) := by
    show (if ("now" : Str) = "past" then _ else _) = _
    rw [if_neg (by decide +kernel)]
    exact congrArg (List.cons ((("now" : Str), nv5) : Str × V)) (show putF ("past" : Str) (V.ref l) [("past", V.ref pl2)] = ([("past", .ref l)] : List (Str × V)) from if_pos rfl)
  rw [hpp]
  let H6 := upd (upd H5 l (.lst pva)) a2 (.ins T.Draw.C dx5 [("now", nv5), ("past", .ref l)])
  have hlW : l ∉ W.M := fun z => hlM (List.mem_append_right _ z)
  have hother : ∀ x, x ≠ a2 → x ≠ l → H6 x = H5 x := fun x q1 q2 => by
    show upd (upd H5 l _) a2 _ x = _
    rw [upd_ne q1, upd_ne q2]
  have x6 : Xt ((F (s.1, [])).v H5) (vis ([a2, l] ++ W.M) H6) := fun x o e => by
    obtain ⟨n, e⟩ := vis_some e
    have q1 : x ≠ a2 := fun z => n (by rw [z]; exact List.mem_append_left _ (by simp))
    have q2 : x ≠ l := fun z => by rw [z, hl] at e; cases e
    rw [vis_eq (fun z => by rcases List.mem_append.mp z with z | z; · simp at z; exact z.elim q1 q2
                            · exact n (List.mem_append_right _ z)), hother x q1 q2]
    exact e
  obtain ⟨v9, e9, p9⟩ := fr5.get (i := 1) (T := Ty.is (.ref a2)) rfl
  cases p9
  refine ⟨.ref a2, e9, ?_⟩
  refine kq a2 l H6 ha2 hlW ⟨W.mo s5.2.1 x6 fun x hx => hother x (fun z => ha2 (by rw [← z]; exact hx)) (fun z => hlW (by rw [← z]; exact hx)), dx5, nv5, pva, upd_same, (tTrip T s.1).mo x6 k2, ?_, Al.mo x6 g4⟩ ?_
  · show upd (upd H5 l _) a2 _ l = _
    rw [upd_ne hla2, upd_same]
  · refine Xt.trans ?_ x6
    refine Xt.trans ?_ s5.1
    rw [v4]
    exact x1.trans (s2.trans s3).1
end
end Fo
set_option Elab.async false
set_option linter.all false
set_option maxRecDepth 100000
/-! Tuples whose object is known, sorting them, places in them; sets of natural numbers; unknown values. -/
namespace Fo
open PySem PySem.Spec PyProof.Rows L2
section
variable {K : PySem.W.Frag} {w : World} {W : Wd} {G : Ctx} {te ta tb to : TE} {tr : TA} {T U S : Ty} {ts us : List Ty}
theorem EV.tupZ (h : EVA W G tr ts) (hl : ts.length ≤ 1000) : EV W G (tTupZ tr) (Ty.tupZ ts) := ⟨fun ok fr k => h.run ok fr fun vs H1 s1 p1 => ⟨szl (by rw [← p1.len]; exact hl), fun p o hp hd => by
  refine k (.ref p) _ (s1.trans (s1.2.new hp)) ⟨p, vs, o, rfl, ?_, hd, p1.mo (s1.2.new (o := .frz o (.tup vs)) hp).1⟩
  rw [s1.2.v_new hp, upd_same]⟩⟩
theorem EV.z (h : EV W G te (Ty.tupZ ts)) : EV W G te (Ty.tup ts) := h.to fun H v p => tupZ_tup H v p
theorem RV.catZ (hl : ts.length + us.length ≤ 1000) (hu : us ≠ []) : RV W (rCatZ K) (Ty.tupZ ts) (Ty.tupZ us) (Ty.tupZ (ts ++ us)) := ⟨fun {x y H Q} ok px py k => by
  obtain ⟨a, vs, o, rfl, e, hd, al⟩ := px
  obtain ⟨b, ws, o', rfl, e', hd', al'⟩ := py
  have hws : ws ≠ [] := fun z => hu (by have := al'.len; rw [z] at this; exact List.length_eq_zero_iff.mp this)
  refine ⟨a, b, vs, ws, rfl, rfl, .inl (.inr ⟨o, (vis_some e).2⟩), .inl (.inr ⟨o', (vis_some e').2⟩), szl (by rw [← al.len, ← al'.len]; exact hl), fun z => ?_, hws, fun hne p o2 hp hd2 => ?_⟩
  · subst z
    have : ts = [] := List.length_eq_zero_iff.mp al.len
    subst this
    exact k _ H ok.st ⟨b, ws, o', rfl, e', hd', al'⟩
  · refine k _ _ (ok.new hp) ⟨p, _, o2, rfl, ?_, hd2, (al.app al').mo (ok.new (o := .frz o2 (.tup (vs ++ ws))) hp).1⟩
    rw [ok.v_new hp, upd_same]⟩
abbrev tDeal (d : List Nat) : Ty := Ty.tupZ (d.map tN)
theorem al_tN {H : Hp} {d : List Nat} {vs : List V} (al : Al H (d.map tN) vs) : vs = (d.map fun n : Nat => (n : Int)).map V.int := by
  have h : Al H ((d.map nV).map Ty.is) vs := by rw [List.map_map]; exact al
  rw [al_is h, List.map_map]
  rfl
/-- d.index(x) -/
theorem EV.tindex {d : List Nat} {x j : Nat} (h : EV W G to (tDeal d)) (hx : EV W G te (tN x)) (hj : d[j]? = some x) (hno : ∀ m, m < j → d[m]? ≠ some x) : EV W G (tTIx K to (tCons te tNil)) (tN j) := ⟨fun ok fr k => h.run ok fr fun v H1 s1 p1 => by
  obtain ⟨a, vs, o, rfl, e, hd, al⟩ := p1
  refine ⟨⟨a, vs, o, rfl, (vis_some e).2, hd⟩, (EVA.cons hx EVA.nil).run s1.2 (fr.mo s1.1) fun zs H2 s2 p2 => ?_⟩
  obtain ⟨z, rfl, pz⟩ := al1 p2
  cases pz
  have e2 := s2.1.at e trivial
  rw [al_tN al] at e2
  refine ⟨a, d.map fun n : Nat => (n : Int), (x : Int), j, rfl, rfl, .inl (.inr ⟨o, (vis_some e2).2⟩), by rw [List.getElem?_map, hj]; rfl, fun m hm z => ?_, k _ H2 (s1.trans s2) rfl⟩
  rw [List.getElem?_map] at z
  cases q : d[m]? with
  | none => rw [q] at z; cases z
  | some y =>
    rw [q] at z
    have z : (y : Int) = (x : Int) := Option.some.inj z
    exact hno m hm (by rw [q, show y = x by omega])⟩
/-! ### sorted lists of such -/
def code4 (d : List Nat) : Int := TS.code 4 (d.map fun n : Nat => (n : Int))
theorem rank_unique {α : Type} {r : α → Int} {xs ys : List α} (h : ys.Perm xs) (hx : xs.Pairwise fun a b => r a < r b) (hy : ys.Pairwise fun a b => r a ≤ r b) : ys = xs := by
  refine h.eq_of_pairwise (le := fun a b => r a ≤ r b) (fun a b ha hb h1 h2 => ?_) hy (hx.imp Int.le_of_lt)
  have hab : r a = r b := Int.le_antisymm h1 h2
  have ha' := h.mem_iff.mp ha
  clear ha h hy
  induction xs with
  | nil => cases ha'
  | cons z zs ih =>
    obtain ⟨p, q⟩ := List.pairwise_cons.mp hx
    rcases List.mem_cons.mp ha' with e | ha'
    · rcases List.mem_cons.mp hb with e' | hb
      · rw [e, e']
      · have := p b hb; rw [← e] at this; omega
    · rcases List.mem_cons.mp hb with e' | hb
      · have := p a ha'; rw [← e'] at this; omega
      · exact ih q hb ha'
theorem al_mem {H : Hp} {α : Type} {f : α → Ty} : ∀ {L : List α} {xs : List V} {x : V}, Al H (L.map f) xs → x ∈ xs → ∃ a ∈ L, (f a).p H x
  | [], [], _, _, h => by cases h
  | a :: L, y :: ys, x, al, h => by
    rcases List.mem_cons.mp h with e | h
    · exact ⟨a, List.mem_cons_self, by rw [e]; exact al.1⟩
    · obtain ⟨b, hb, p⟩ := al_mem al.2 h
      exact ⟨b, List.mem_cons_of_mem _ hb, p⟩
  | [], _ :: _, _, al, _ => al.elim
  | _ :: _, [], _, al, _ => al.elim
theorem tupI_deal {H : Hp} {d : List Nat} {x : V} (p : (tDeal d).p H x) {H' : Hp} (h : Xt H H') : TupI K H' x (d.map fun n : Nat => (n : Int)) := by
  obtain ⟨a, vs, o, rfl, e, hd, al⟩ := p
  rw [al_tN al] at e
  exact ⟨a, rfl, .inl (.inr ⟨o, h.at e trivial⟩)⟩
theorem RC.sortT {n : Nat} {L : List (List Nat)} (h64 : L.length < 64) (hn : ∀ d ∈ L, d.length = n ∧ ∀ x ∈ d, x < 4) (hs : L.Pairwise fun a b => code4 a < code4 b) : RC W (rSortU K n 4) [Ty.lst (L.map tDeal)] (Ty.lst (L.map tDeal)) := ⟨fun {vs H Q} ok al0 k => by
  obtain ⟨v, rfl, a, vs, e0, e, al⟩ := al1 al0
  subst e0
  refine ⟨a, vs, rfl, SqL.of (vis_some e).2, by rw [← al.len, List.length_map]; exact h64, fun x hx => ?_, fun ys p hp hys hfree => ?_⟩
  · obtain ⟨d, hd, pd⟩ := al_mem al hx
    obtain ⟨a1, a2⟩ := hn d hd
    refine ⟨_, tupI_deal pd (vis_sub _ _), by rw [List.length_map]; exact a1, fun m hm => ?_⟩
    obtain ⟨y, hy, rfl⟩ := List.mem_map.mp hm
    have := a2 y hy
    omega
  · -- each value's rank
    have rank : ∃ r : V → Int, ∀ x ∈ vs, ∀ d, (tDeal d).p (W.v H) x → r x = code4 d := by
      classical
      refine ⟨fun x => if hh : ∃ d, (tDeal d).p (W.v H) x then code4 (Classical.choose hh) else 0, fun x hx d hd => ?_⟩
      have hh : ∃ d, (tDeal d).p (W.v H) x := ⟨d, hd⟩
      show (if hh : ∃ d, (tDeal d).p (W.v H) x then code4 (Classical.choose hh) else 0) = _
      rw [dif_pos hh]
      have h1 := Classical.choose_spec hh
      obtain ⟨a1, v1, o1, e1, f1, _, al1⟩ := h1
      obtain ⟨a2, v2, o2, e2, f2, _, al2⟩ := hd
      rw [e1] at e2
      injection e2 with e2
      subst e2
      rw [f1] at f2
      injection f2 with f2
      injection f2 with f2 f3
      injection f3 with f3
      subst f3
      have q := (al_tN al1).symm.trans (al_tN al2)
      unfold code4
      congr 1
      have inj : ∀ {x y : List Int}, x.map V.int = y.map V.int → x = y := fun {x y} hxy => (List.map_inj_right (f := V.int) fun _ _ z => by injection z).mp hxy
      exact inj q
    obtain ⟨r, hr⟩ := rank
    have hys2 : ys = vs := by
      refine rank_unique (r := r) hp ?_ ?_
      · have : ∀ {L : List (List Nat)} {vs : List V}, (∀ x ∈ vs, ∀ d, (tDeal d).p (W.v H) x → r x = code4 d) → L.Pairwise (fun a b => code4 a < code4 b) → Al (W.v H) (L.map tDeal) vs → vs.Pairwise fun a b => r a < r b := by
          intro L
          induction L with
          | nil => intro vs _ _ al; cases vs with
            | nil => exact List.Pairwise.nil
            | cons _ _ => exact al.elim
          | cons d L ih =>
            intro vs hr hs al
            cases vs with
            | nil => exact al.elim
            | cons x vs =>
              obtain ⟨p, q⟩ := List.pairwise_cons.mp hs
              refine List.pairwise_cons.mpr ⟨fun y hy => ?_, ih (fun x hx => hr x (List.mem_cons_of_mem _ hx)) q al.2⟩
              obtain ⟨d', hd', pd'⟩ := al_mem al.2 hy
              rw [hr x List.mem_cons_self d al.1, hr y (List.mem_cons_of_mem _ hy) d' pd']
              exact p d' hd'
        exact this hr hs al
      · refine hys.imp_of_mem fun {x y} hx hy hxy => ?_
        obtain ⟨d, hd, pd⟩ := al_mem al (hp.mem_iff.mp hx)
        obtain ⟨d', hd', pd'⟩ := al_mem al (hp.mem_iff.mp hy)
        rw [hr x (hp.mem_iff.mp hx) d pd, hr y (hp.mem_iff.mp hy) d' pd']
        exact hxy _ _ (tupI_deal pd (vis_sub _ _)) (tupI_deal pd' (vis_sub _ _))
    subst hys2
    refine k _ _ (ok.new hfree) ⟨p, ys, rfl, ?_, al.mo (ok.new (o := .lst ys) hfree).1⟩
    rw [ok.v_new hfree, upd_same]⟩
/-! ### sets of natural numbers -/
abbrev Ty.setN (w : World) (ns : List Nat) : Ty := Ty.set w (ns.map fun n : Nat => (n : Int))
theorem RC.setN {ns : List Nat} (hn : ns.length ≤ 100) : RC W (rSetI K w) [Ty.lst (ns.map tN)] (Ty.setN w ns) := by
  have h := RC.setL (W := W) (K := K) (w := w) (ns := ns.map fun n : Nat => (n : Int)) (by rw [List.length_map]; exact hn)
  unfold lstF at h
  rw [List.map_map, List.map_map] at h
  exact h
theorem RC.setNT {ns : List Nat} (hn : ns.length ≤ 100) : RC W (rSetI K w) [Ty.tup (ns.map tN)] (Ty.setN w ns) := by
  have h := RC.setT (W := W) (K := K) (w := w) (ns := ns.map fun n : Nat => (n : Int)) (by rw [List.length_map]; exact hn)
  unfold tupF at h
  rw [List.map_map, List.map_map] at h
  exact h
theorem RC.sortedSetN {ns ms : List Nat} (hn : ns.length < 64) (hs : ms.Pairwise (· < ·)) (hm : ∀ k, k ∈ ms ↔ k ∈ ns) : RC W (rSortedSet w) [Ty.setN w ns] (Ty.lst (ms.map tN)) := by
  have h := RC.sortedSet (W := W) (w := w) (ns := ns.map fun n : Nat => (n : Int)) (ms := ms.map fun n : Nat => (n : Int)) (by rw [List.length_map]; exact hn) (List.pairwise_map.mpr (hs.imp fun z => by omega)) (fun k => by
    rw [List.mem_map, List.mem_map]
    exact ⟨fun ⟨a, b, c⟩ => ⟨a, (hm a).mp b, c⟩, fun ⟨a, b, c⟩ => ⟨a, (hm a).mpr b, c⟩⟩)
  unfold lstF at h
  rw [List.map_map, List.map_map] at h
  exact h
/-- one alone, or not -/
def oneOf (ns : List Nat) : Bool := match ns with
  | [] => false
  | a :: r => r.all fun x => decide (x = a)
theorem card_one {ns : List Nat} {c : Nat} (h : Card (fun j => decide (j ∈ ns.map fun n : Nat => (n : Int))) c) : decide (c = 1) = oneOf ns := by
  obtain ⟨ks, hnd, hl, hk⟩ := h
  have hk : ∀ k : Int, k ∈ ks ↔ k ∈ ns.map fun n : Nat => (n : Int) := fun k => by rw [← hk k, decide_eq_true_iff]
  cases ns with
  | nil =>
    have : ks = [] := by
      cases ks with
      | nil => rfl
      | cons a ks => exact absurd ((hk a).mp List.mem_cons_self) (by simp)
    subst this
    rw [← hl]; rfl
  | cons a r =>
    show decide (c = 1) = r.all fun x => decide (x = a)
    by_cases h1 : ∀ x ∈ r, x = a
    · have e : (r.all fun x => decide (x = a)) = true := List.all_eq_true.mpr fun x hx => decide_eq_true (h1 x hx)
      rw [e]
      refine decide_eq_true ?_
      have hall : ∀ k ∈ ks, k = (a : Int) := fun k hkk => by
        obtain ⟨n, hn, rfl⟩ := List.mem_map.mp ((hk k).mp hkk)
        rcases List.mem_cons.mp hn with e | hn
        · rw [e]
        · rw [h1 n hn]
      have hin : (a : Int) ∈ ks := (hk _).mpr (List.mem_map.mpr ⟨a, List.mem_cons_self, rfl⟩)
      cases ks with
      | nil => cases hin
      | cons b ks =>
        cases ks with
        | nil => rw [← hl]; rfl
        | cons c2 ks =>
          have e1 := hall b List.mem_cons_self
          have e2 := hall c2 (List.mem_cons_of_mem _ List.mem_cons_self)
          rw [e1, e2] at hnd
          exact absurd hnd (by simp)
    · have e : (r.all fun x => decide (x = a)) = false := by
        rw [Bool.eq_false_iff]
        intro z
        exact h1 fun x hx => of_decide_eq_true (List.all_eq_true.mp z x hx)
      rw [e]
      refine decide_eq_false fun hc => h1 fun x hx => ?_
      have i1 : (a : Int) ∈ ks := (hk _).mpr (List.mem_map.mpr ⟨a, List.mem_cons_self, rfl⟩)
      have i2 : (x : Int) ∈ ks := (hk _).mpr (List.mem_map.mpr ⟨x, List.mem_cons_of_mem _ hx, rfl⟩)
      rw [hc] at hl
      obtain ⟨b, rfl⟩ := List.length_eq_one_iff.mp hl
      rw [List.mem_singleton] at i1 i2
      omega
theorem RC.lenSetN {ns : List Nat} (hn : ns.length ≤ 100) : ∀ {vs : List V} {H : Hp} {Q : VK}, W.ok H → Al (W.v H) [Ty.setN w ns] vs → (∀ c H', W.st H H' → decide (c = 1) = oneOf ns → Q (nV c) H') → rLenSet w vs H Q := fun {vs H Q} ok al0 k => by
  obtain ⟨v, rfl, a, c, e0, e, hc, hk⟩ := al1 al0
  subst e0
  exact ⟨a, _, c, rfl, (vis_some e).2, by rw [List.length_map] at hc; omega, k c _ ok.st (card_one hk)⟩
/-- len(set(..)) == 1 -/
theorem EVT.one {ns : List Nat} (h : EV W G te (Ty.setN w ns)) (hn : ns.length ≤ 100) : EVT W G (tB (tOp rEq (tCB (rLenSet w) (tCons te tNil)) (tC (.int 1)))) (oneOf ns) := ⟨fun ok fr k => (EVA.cons h EVA.nil).run ok fr fun vs H1 s1 p1 =>
  RC.lenSetN hn s1.2 p1 fun c H2 s2 e => ⟨rfl, _, rfl, by rw [eq1, e]; exact k H2 (s1.trans s2)⟩⟩
end
end Fo
set_option Elab.async false
set_option linter.all false
set_option maxRecDepth 100000
/-! Loops whose context goes on; loops that extend a list. -/
namespace Fo
open PySem PySem.Spec PyProof.Rows L2
section
variable {K : PySem.W.Frag} {W : Wd} {te : TE} {t u0 : TS} {α : Type}
theorem SB.forI {wi : TI} {g : TG} {vs : List Nat} (L : List α) (X : α → Ty) (u : α → Ctx → Ctx) (G : Nat → Ctx) (hi : EVI W (G 0) wi (L.map X)) (hg : ∀ a ∈ L, GT g (X a) (u a) vs) (hb : ∀ i a, L[i]? = some a → SB W (u a (G i)) t (G (i + 1))) : SB W (G 0) (tFor wi g t) (G L.length) := ⟨fun {σ H0 D} ok fr k =>
  hi.run ok fr fun J H1 gd s1 hg1 I => by
    refine ⟨fun i m σ' H => m = L.length - i ∧ i ≤ L.length ∧ W.ok H ∧ Xt (W.v H1) (W.v H) ∧ Fr (W.v H) (G i) σ', ⟨L.length, by simp, Nat.zero_le _, s1.2, Xt.refl _, fr.mo s1.1⟩, ?_⟩
    rintro i m σ' H ⟨rfl, hil, okH, x, frH⟩
    have gH := I.mo hg1 x
    by_cases hlt : i < L.length
    · refine .inr ⟨I.go gH (vis_sub _ _) (by rw [List.length_map]; exact hlt), fun σ2 H2 => (i + 1 ≤ L.length ∧ W.ok H2 ∧ Xt (W.v H1) (W.v H2) ∧ Fr (W.v H2) (G (i + 1)) σ2), fun σ2 H2 p => ⟨L.length - (i + 1), by omega, rfl, p⟩, fun y H2 hy => ?_⟩
      have ha : L[i]? = some L[i] := List.getElem?_eq_getElem hlt
      have hm : L[i] ∈ L := List.getElem_mem hlt
      obtain ⟨xH, py⟩ := I.yld okH gH (by rw [List.getElem?_map, ha]; rfl) hy
      have s2 := okH.pure xH
      refine hg _ hm W H2 _ _ y _ (frH.mo s2.1) py fun σ3 fr3 _ => ?_
      exact (hb i _ ha).run s2.2 fr3 fun σ4 H4 s4 fr4 => ⟨hlt, s4.2, (x.trans s2.1).trans s4.1, fr4⟩
    · have e : i = L.length := by omega
      subst e
      exact .inl ⟨by have := I.stop gH (vis_sub _ _); rwa [List.length_map] at this, k _ _ (s1.trans ⟨x, okH⟩) frH⟩⟩
/-- for a in L: l.extend(M a) -/
theorem SB.extL {wi : TI} {g : TG} {vs : List Nat} {i : Nat} {G : Ctx} {G' : Ctx} (L : List α) (X : α → Ty) (M : α → List Ty) (u : α → Ctx → Ctx)
    (hi : ∀ l, EVI (W.own l (.lst []) trivial) (G.set i (some (Ty.is (.ref l)))) wi (L.map X)) (hg : ∀ a ∈ L, GT g (X a) (u a) vs) (hu : ∀ a ∈ L, ∀ l, (u a (G.set i (some (Ty.is (.ref l)))))[i]? = some (some (Ty.is (.ref l)))) (hd : ∀ a ∈ L, ∀ l H σ, Fr H (u a (G.set i (some (Ty.is (.ref l))))) σ → Fr H (G.set i (some (Ty.is (.ref l)))) σ)
    (he : ∀ l acc, l ∉ W.M → ∀ a ∈ L, EV (W.own l (.lst acc) trivial) (u a (G.set i (some (Ty.is (.ref l))))) te (Ty.lst (M a))) (hn : (L.flatMap M).length ≤ 900)
    (k : SB W (G.set i (some (Ty.lst (L.flatMap M)))) u0 G') :
    SB W G (tSeq (tAsg (tLst tNil) (gName i)) (tSeq (tFor wi g (tDrop (tBM K "list" rExtend (tVar i) (tCons te tNil)))) u0)) G' := ⟨fun {σ H D} ok fr kn => by
  refine ⟨by show 0 ≤ sizeLine; omega, fun l hl => ?_⟩
  have hlM := ok.nM hl
  have okO : (W.own l (.lst []) trivial).ok (upd H l (.lst [])) := ok.own hl
  have vO : (W.own l (.lst []) trivial).v (upd H l (.lst [])) = W.v H := own_v ok hl
  have frO : Fr ((W.own l (.lst []) trivial).v (upd H l (.lst []))) (G.set i (some (Ty.is (.ref l)))) (σ.set i (some (.ref l))) := by rw [vO]; exact Fr.set rfl i fr
  refine (hi l).run okO frO fun J H1 gd s1 hg1 I => ?_
  let Pv : Nat → L2.St → Hp → Prop := fun j σ' H' => ∃ acc, (W.own l (.lst acc) trivial).ok H' ∧ Xt ((W.own l (.lst []) trivial).v H1) ((W.own l (.lst acc) trivial).v H') ∧ Fr ((W.own l (.lst acc) trivial).v H') (G.set i (some (Ty.is (.ref l)))) σ' ∧
    Al ((W.own l (.lst acc) trivial).v H') ((L.take j).flatMap M) acc
  have P0 : Pv 0 (σ.set i (some (.ref l))) H1 := ⟨[], s1.2, Xt.refl _, frO.mo s1.1, trivial⟩
  refine ⟨fun j m σ' H' => m = L.length - j ∧ j ≤ L.length ∧ Pv j σ' H', ⟨L.length, by simp, Nat.zero_le _, P0⟩, ?_⟩
  rintro j m σ' H' ⟨rfl, hjl, acc, okD, x, frD, al⟩
  have gH := I.mo hg1 x
  by_cases hlt : j < L.length
  · refine .inr ⟨I.go gH (vis_sub _ _) (by rw [List.length_map]; exact hlt), fun σ2 H2 => j + 1 ≤ L.length ∧ Pv (j + 1) σ2 H2, fun σ2 H2 p => ⟨L.length - (j + 1), by omega, rfl, p⟩, fun y H2 hy => ?_⟩
    have ha : L[j]? = some L[j] := List.getElem?_eq_getElem hlt
    have hm : L[j] ∈ L := List.getElem_mem hlt
    obtain ⟨xH, py⟩ := I.yld okD gH (by rw [List.getElem?_map, ha]; rfl) hy
    have s2 := okD.pure xH
    refine hg _ hm _ H2 _ _ y _ (frD.mo s2.1) py fun σ3 fr3 _ => ?_
    obtain ⟨v0, e0, p0⟩ := fr3.get (hu _ hm l)
    cases p0
    refine ⟨.ref l, e0, .inl ⟨rfl, _, SqL.of s2.2.at⟩, (EVA.cons (he l acc hlM _ hm) EVA.nil).run s2.2 fr3 fun zs H5 s5 pz => ?_⟩
    obtain ⟨z, rfl, b, ws, rfl, hb, alb⟩ := al1 pz
    have s25 := s2.trans s5
    have et : (L.take (j + 1)).flatMap M = (L.take j).flatMap M ++ M L[j] := by
      rw [List.take_succ, ha, List.flatMap_append]
      simp
    have hb2 := (vis_some hb).2
    refine ⟨l, b, acc, ws, rfl, rfl, s5.2.at, hb2, szl ?_, hlt, acc ++ ws, s5.2.put hlM, ?_, ?_, ?_⟩
    · rw [← al.len, ← alb.len]
      have e1 : ((L.take j).flatMap M).length + (M L[j]).length = ((L.take (j + 1)).flatMap M).length := by rw [et, List.length_append]
      have e2 : ((L.take (j + 1)).flatMap M).length ≤ (L.flatMap M).length := by
        conv => rhs; rw [← List.take_append_drop (j + 1) L, List.flatMap_append, List.length_append]
        omega
      omega
    · rw [own_put (n := trivial)]
      exact x.trans s25.1
    · rw [own_put (n := trivial)]
      exact hd _ hm l _ _ (fr3.mo s5.1)
    · rw [own_put (n := trivial), et]
      exact (al.mo s25.1).app alb
  · have e : j = L.length := by omega
    subst e
    refine .inl ⟨by have := I.stop gH (vis_sub _ _); rwa [List.length_map] at this, ?_⟩
    rw [List.take_of_length_le (Nat.le_refl _)] at al
    have sub : Xt ((W.own l (.lst acc) trivial).v H') (W.v H') := own_sub
    have xx : Xt (W.v H) ((W.own l (.lst []) trivial).v H1) := by have := s1.1; rwa [vO] at this
    have s : W.st H H' := ⟨xx.trans (x.trans sub), okD.show_⟩
    refine k.run s.2 (Fr.up (fun v e => ?_) i (frD.mo sub)) fun σ2 H2 s2 => kn σ2 H2 (s.trans s2)
    have e : v = .ref l := e
    subst e
    refine ⟨l, acc, rfl, ?_, al.mo sub⟩
    rw [Wd.v, vis_eq hlM]
    exact okD.at⟩
/-- a statement that goes on, then the rest -/
theorem ST.sb {G G' : Ctx} {R : Ty} (h : SB W G t G') (k : ST W G' u0 R) : ST W G (tSeq t u0) R := ⟨fun ok fr kn kr => h.run ok fr fun σ' H' s fr' => k.run s.2 fr' (fun σ2 H2 s2 => kn σ2 H2 (s.trans s2)) fun v H2 s2 => kr v H2 (s.trans s2)⟩
end
section
variable {P : Program} {w : World} {K : PySem.W.Frag} {mg : Str → Option Value} {base : Heap}
/-- as pure_ok; the reading may depend on what is given -/
theorem pure_okI {x qual : Str} {st : Stmt} {f : Addr} {fd : FuncData} {N ps : List Str} {k : Nat} {ι : Type} {args : ι → List Ty} {ok : ι → Prop} {res : ι → Ty} (F : Fun K x qual st f fd) (S : FnScope N ps (defScope st)) (hl : ∀ i, (args i).length = ps.length)
    (hb : ∀ (i : ι), ok i → ∀ (cdv : Value) (A : Around) (outer : List Env) (s : Shared) (H : Hp) (E : XK), Room k (A.deeper (envOfC qual (defScope st) s.heap.objs.size f cdv)) →
      ∃ t, PSs (cxOf CX0 P w K mg base N qual (defScope st) f cdv A outer s H E).nox (defBody st) t ∧ ∀ (W : Wd), ST W ((args i).map some ++ List.replicate (N.length - ps.length) none) t (res i)) :
    FnOk P w K mg base CX0 (k + 1) f fd ps (pSp args ok res) := by
  refine F.ok S (fun vs H Q E h => ?_) (fun cdv A outer s H vs Q E hr h => ?_)
  · obtain ⟨i, W, _, _, al, _⟩ := h
    rw [← al.len, hl]
  · obtain ⟨i, W, hi, okW, al, kq⟩ := h
    obtain ⟨t, ht, hs⟩ := hb i hi cdv A outer s H E hr
    refine ⟨t, ht, ?_⟩
    have e : vs.length = ps.length := by rw [← al.len, hl]
    have fr : Fr (W.v H) ((args i).map some ++ List.replicate (N.length - ps.length) none) (L2.start N vs) := by
      unfold L2.start
      rw [e]
      exact Fr.start al
    exact (hs W).run okW fr (fun σ' H' s p => kq .non H' s p) fun v H' s p => kq v H' s p
end
end Fo
set_option Elab.async false
set_option linter.all false
set_option maxRecDepth 100000
set_option maxHeartbeats 1000000
namespace Fo
open PySem PySem.Spec PyProof.Rows L2
local macro_rules | `(tactic| walk_at "ev") => `(tactic| first
  | ((with_reducible apply EV.var); rfl)
  | (with_reducible exact EV.cst)
  | (with_reducible exact EVA.nil)
  | (with_reducible exact EVO.none)
  | ((with_reducible apply EVO.some); (· walk_at "ev"))
  | ((with_reducible apply EVA.cons); (· walk_at "ev"); (· walk_at "ev"))
  | ((with_reducible apply EV.op); (· walk_at "ev"); (· walk_at "ev"); (· walk_at "rv"))
  | ((with_reducible apply EV.un); (· walk_at "ev"); (· exact RU.neg))
  | ((with_reducible apply EV.chain); (· walk_at "ev"); (· walk_at "ev"); (· walk_at "rv"); (· walk_at "ev"); (· walk_at "rv"))
  | ((with_reducible apply EV.cb); (· walk_at "ev"); (· walk_at "rv"))
  | ((with_reducible apply EV.bits); (· walk_at "ev"))
  | ((with_reducible apply EV.slT); (· walk_at "ev"); (· walk_at "ev"); (· walk_at "ev"))
  | ((with_reducible apply EV.isN); (· walk_at "ev"))
  | ((with_reducible apply EV.notN); (· walk_at "ev"))
  | ((with_reducible apply EV.notV); (· walk_at "ev"))
  | ((with_reducible apply EV.andV); (· walk_at "ev"); (· intro _; walk_at "ev"))
  | ((with_reducible apply EVT.test); (· walk_at "ev"))
  | ((with_reducible apply EVT.B); (· walk_at "ev"))
  | ((with_reducible apply EVT.not); (· walk_at "ev"))
  | ((with_reducible apply EV.tup); (· walk_at "ev"); (· decide))
  | ((with_reducible apply EV.lst); (· walk_at "ev"); (· decide))
  | ((with_reducible apply EVI.list); (· walk_at "ev"))
  | ((with_reducible apply EVI.tup); (· walk_at "ev"))
  | ((with_reducible apply EVI.enum); (· walk_at "ev"))
  | ((with_reducible apply EVI.enumT); (· walk_at "ev"))
  | ((with_reducible apply EVI.zipT); (· walk_at "ev"); (· walk_at "ev")))
local macro_rules | `(tactic| walk_at "rv") => `(tactic| first
  | exact RV.I0
  | exact RV.oneShl (by decide)
  | exact RV.shrN
  | exact RV.odd
  | exact RC.isi_ii
  | exact RC.isi_ib
  | exact RC.isi_tt
  | exact RC.isi_ss
  | exact RC.lenT
  | exact RC.lenL
  | exact RC.sumF
  | exact RC.allF
  | exact RV.inTN
  | exact RV.inLN
  | exact RV.inTO
  | exact RC.tupOf
  | exact RC.lstOfT
  | exact RC.lstOfL
  | exact RC.int
  | exact RC.intB
  | exact RC.abs
  | exact RV.Eq rfl
  | exact RV.Ne rfl)
/-! ## the law's own reckoning -/
def stepA (found : List (List Nat)) (row : List Nat) : List (List Nat) := found.flatMap fun told => (row.filter fun x => !decide (x ∈ told)).map fun x => told ++ [x]
def allS (R : List (List Nat)) : List (List Nat) := R.foldl stepA [[]]
def fits (S : List (Option Nat)) (d : List Nat) : Bool := (List.range S.length).all fun k => decide (S.getD k none = none) || decide (S.getD k none = some (d.getD k 0))
def deals (s : St3) : List (List Nat) := (allS s.1).filter (fits s.2.1)
/-- after some rows -/
structure AllOk (n i : Nat) (L : List (List Nat)) : Prop where
  len : ∀ d ∈ L, d.length = i ∧ d.Nodup ∧ ∀ x ∈ d, x < n
  asc : L.Pairwise fun a b => code4 a < code4 b
  few : L.length ≤ ([1, 4, 12, 24, 24].getD i 0)
theorem code_app (d : List Nat) (x : Nat) : code4 (d ++ [x]) = code4 d * 4 + (x : Int) := by
  unfold code4
  rw [List.map_append]
  have : ∀ (l : List Int) (x : Int), TS.code 4 (l ++ [x]) = TS.code 4 l * 4 + x := by
    intro l x
    induction l with
    | nil => show x * 4 ^ 0 + 0 = 0 * 4 + x; omega
    | cons a l ih =>
      show a * 4 ^ (l ++ [x]).length + TS.code 4 (l ++ [x]) = (a * 4 ^ l.length + TS.code 4 l) * 4 + x
      rw [ih, List.length_append, Int.add_mul, Int.mul_assoc]
      show a * 4 ^ (l.length + 1) + _ = a * (4 ^ l.length * 4) + _ + x
      rw [Int.pow_succ]
      omega
  exact this _ _
theorem few_new {told row : List Nat} {n : Nat} (hn : n ≤ 4) (h1 : told.Nodup) (h2 : ∀ x ∈ told, x < n) (h3 : row.Nodup) (h4 : ∀ x ∈ row, x < n) : (row.filter fun x => !decide (x ∈ told)).length ≤ 4 - told.length := by
  have e := nodup_lt (n := 4) (l := (row.filter fun x => !decide (x ∈ told)) ++ told) (List.nodup_append.mpr ⟨h3.sublist List.filter_sublist, h1, fun a ha b hb z => by
    have := (List.mem_filter.mp ha).2
    subst z
    simp [hb] at this⟩) fun x hx => by
    rcases List.mem_append.mp hx with hx | hx
    · have := h4 x (List.mem_filter.mp hx).1; omega
    · have := h2 x hx; omega
  rw [List.length_append] at e
  omega
theorem AllOk.step {n i : Nat} {L : List (List Nat)} {row : List Nat} (h : AllOk n i L) (hn : n ≤ 4) (hi : i < 4) (hr : row.Pairwise (· < ·)) (hx : ∀ x ∈ row, x < n) : AllOk n (i + 1) (stepA L row) where
  len := fun d hd => by
    obtain ⟨told, ht, hd⟩ := List.mem_flatMap.mp hd
    obtain ⟨x, hxm, rfl⟩ := List.mem_map.mp hd
    obtain ⟨a, b, c⟩ := h.len told ht
    obtain ⟨hx1, hx2⟩ := List.mem_filter.mp hxm
    have hnot : x ∉ told := by simpa using hx2
    refine ⟨by rw [List.length_append, a]; rfl, List.nodup_append.mpr ⟨b, by simp, fun y hy z hz e => ?_⟩, fun y hy => ?_⟩
    · rw [List.mem_singleton] at hz; subst hz; subst e; exact hnot hy
    · rcases List.mem_append.mp hy with hy | hy
      · exact c y hy
      · rw [List.mem_singleton.mp hy]; exact hx x hx1
  asc := by
    unfold stepA
    rw [List.pairwise_flatMap]
    refine ⟨fun told ht => ?_, h.asc.imp fun {a b} hab => ?_⟩
    · rw [List.pairwise_map]
      refine (hr.sublist List.filter_sublist).imp fun {a b} hab => ?_
      rw [code_app, code_app]
      omega
    · intro y hy z hz
      obtain ⟨x, hxm, rfl⟩ := List.mem_map.mp hy
      obtain ⟨x', hxm', rfl⟩ := List.mem_map.mp hz
      have := hx x (List.mem_filter.mp hxm).1
      rw [code_app, code_app]
      omega
  few := by
    have key : ∀ M : List (List Nat), (∀ d ∈ M, d ∈ L) → (stepA M row).length ≤ M.length * (4 - i) := by
      intro M
      induction M with
      | nil => intro _; exact Nat.zero_le _
      | cons t M ih =>
        intro hM
        obtain ⟨a, b, c⟩ := h.len t (hM t List.mem_cons_self)
        have e := few_new hn b c (hr.imp fun z => Nat.ne_of_lt z) hx
        have ih' := ih fun d hd => hM d (List.mem_cons_of_mem _ hd)
        unfold stepA at ih' ⊢
        rw [List.flatMap_cons, List.length_append, List.length_map, List.length_cons, Nat.succ_mul]
        rw [a] at e
        omega
    have k := key L fun d hd => hd
    have f := h.few
    match i, hi with
    | 0, _ => have f : L.length ≤ 1 := f; show _ ≤ 4; omega
    | 1, _ => have f : L.length ≤ 4 := f; show _ ≤ 12; omega
    | 2, _ => have f : L.length ≤ 12 := f; show _ ≤ 24; omega
    | 3, _ => have f : L.length ≤ 24 := f; show _ ≤ 24; omega
theorem all0 (n : Nat) : AllOk n 0 [[]] := ⟨fun d hd => by
  rw [List.mem_singleton] at hd
  subst hd
  exact ⟨rfl, List.nodup_nil, fun x h => by cases h⟩, List.pairwise_singleton _ _, Nat.le_refl _⟩
theorem AllOk.take {R : List (List Nat)} (hR : RowsOk R) : ∀ i, i ≤ R.length → AllOk R.length i ((R.take i).foldl stepA [[]])
  | 0, _ => by rw [List.take_zero]; exact all0 _
  | i + 1, h => by
    have hi : i < R.length := h
    rw [List.take_succ, List.getElem?_eq_getElem hi, List.foldl_append]
    have hm := List.getElem_mem hi
    have := hR.2.1
    exact (AllOk.take hR i (Nat.le_of_lt hi)).step hR.2.1 (by omega) (hR.2.2 _ hm).1 (hR.2.2 _ hm).2
theorem AllOk.all {R : List (List Nat)} (hR : RowsOk R) : AllOk R.length R.length (allS R) := by
  have := AllOk.take hR R.length (Nat.le_refl _)
  rwa [List.take_of_length_le (Nat.le_refl _)] at this
theorem AllOk.few24 {n i : Nat} {L : List (List Nat)} (h : AllOk n i L) (hi : i ≤ 4) : L.length ≤ 24 := by
  have f := h.few
  match i, hi with
  | 0, _ => have f : L.length ≤ 1 := f; omega
  | 1, _ => have f : L.length ≤ 4 := f; omega
  | 2, _ => have f : L.length ≤ 12 := f; omega
  | 3, _ => have f : L.length ≤ 24 := f; omega
  | 4, _ => have f : L.length ≤ 24 := f; omega
section
variable {P : Program} {w : World} {K : PySem.W.Frag} {mg : Str → Option Value} {base : Heap}
abbrev sp_whole : Sp := pSp (fun i : Nat × Nat => [tN i.1, tN i.2]) (fun _ => True) (fun i => tBl (decide (i.1 = i.2)))
theorem n_eq (a b : Nat) : decide (nV a = nV b) = decide (a = b) := by
  have := ne_n a b
  cases h : decide (nV a = nV b) <;> cases h' : decide (a = b) <;> rw [h, h'] at this <;> first | rfl | cases this
theorem ok_law_whole (T : Tp K mg) : FnOk P w K mg base CX0 1 T.law_whole.a T.law_whole.fd p_law_whole sp_whole :=
  pure_ok T.law_whole.F sc_law_whole (fun _ => rfl) fun cdv A outer s H E hr => by
    have nd := sc_law_whole.nd
    refine ⟨_, (pss_one (ps_ret (pe_and (pe_callB call_isi (by rfl) T.b_isinstance (by decide +kernel) (pa_cons (pv 0) (pa_cons (pe_bltn (v := .ty "int") (by rfl) T.b_int (by decide +kernel) rfl) pa_nil))) (pe_and (pe_not (pe_callB call_isi (by rfl) T.b_isinstance (by decide +kernel) (pa_cons (pv 0) (pa_cons (pe_bltn (v := .ty "bool") (by rfl) T.b_bool (by decide +kernel) rfl) pa_nil)))) (pe_one (pe_cmpR op_eq (pv 0) (pv 1) (nomark _))))))), fun W i hi => ?_⟩
    exact ST.retTo (EV.andV (EV.cb (by walk_at "ev") RC.isi_ii) fun _ => EV.andV (EV.notV (EV.cb (by walk_at "ev") RC.isi_ib)) fun _ => EV.op (EV.var rfl) (EV.var rfl) (RV.Eq rfl)) (congrArg tBl (n_eq i.1 i.2))
theorem ok_law_drawn (T : Tp K mg) : FnOk P w K mg base CX0 1 T.law_drawn.a T.law_drawn.fd p_law_drawn (pSp (fun i : List (Option Nat) × Nat × Nat => [tStand i.1, tN i.2.1, tN i.2.2]) (fun i => i.1.length ≤ 4 ∧ i.2.1 < i.1.length) (fun i => tStand (i.1.set i.2.1 (some i.2.2)))) :=
  pure_ok T.law_drawn.F sc_law_drawn (fun _ => rfl) fun cdv A outer s H E hr => by
    have nd := sc_law_drawn.nd
    refine ⟨_, (pss_one (ps_ret (pe_op op_catA (pe_op op_catA (pe_slice sl_tupA (pv 0) po_none (po_some (pv 1))) (pe_tup (pa_cons (pv 2) pa_nil))) (pe_slice sl_tupA (pv 0) (po_some (pe_op op_add (pv 1) pe_int)) po_none)))), fun W i hi => ?_⟩
    obtain ⟨S, p, x⟩ := i
    obtain ⟨h1, h2⟩ := hi
    have h1 : S.length ≤ 4 := h1
    have h2 : p < S.length := h2
    refine ST.ret (EV.eq (T := Ty.tup ((S.take p).map tO ++ [tN x] ++ (S.drop (p + 1)).map tO)) ?_ (congrArg Ty.tup (set_cut (f := tO) (some x) h2)))
    · refine EV.op (EV.op ?_ (EV.tup (EVA.cons (EV.var rfl) EVA.nil) (by show 1 ≤ 1000; decide)) (RV.catT (by simp; omega))) ?_ (RV.catT (by simp; omega))
      · refine EV.eq (EV.slT (EV.var rfl) EVO.none (EVO.some (EV.var rfl))) ?_
        rw [cut_to, List.map_take]
      · refine EV.eq (EV.slT (EV.var rfl) (EVO.some (i := ((p + 1 : Nat) : Int)) (EV.op (EV.var rfl) EV.cst RV.I0)) EVO.none) ?_
        rw [cut_from, List.map_drop]
abbrev sp_fits : Sp := pSp (fun i : List (Option Nat) × List Nat => [tStand i.1, tDeal i.2]) (fun i => i.1.length ≤ 4 ∧ i.2.length = i.1.length) (fun i => tBl (fits i.1 i.2))
theorem ok_law_fits (T : Tp K mg) : FnOk P w K mg base CX0 1 T.law_fits.a T.law_fits.fd p_law_fits sp_fits :=
  pure_ok T.law_fits.F sc_law_fits (fun _ => rfl) fun cdv A outer s H E hr => by
    have nd := sc_law_fits.nd
    refine ⟨_, (pss_one (ps_ret (pe_callB (cr_all rfl) (by rfl) T.b_all (by decide +kernel) (pa_cons (pe_lc (own := [("_law_k", 2)]) rfl nd (pi_range1 (by rfl) T.b_range (pa_cons (pe_callB call_len_seq (by rfl) T.b_len PySem.boot_len (pa_cons (pv 0) pa_nil)) pa_nil)) (blkOk_by (own := [("_law_k", 2)]) (N := n_law_fits) (sc := defScope s_law_fits) (by decide +kernel)) (fun _ _ _ _ _ => (pg_name (i := 2) nd rfl (Or.inl rfl))) (fun _ _ _ _ _ => pts_nil) (fun _ _ _ _ _ => (pe_or (pe_cmp (pc_isN (pe_ix (ix_tupK (K := K) rfl) (pv 0) (pv 2) (fun _ _ => rfl)))) (pe_one (pe_cmpR op_eq (pe_ix (ix_tupK (K := K) rfl) (pv 0) (pv 2) (fun _ _ => rfl)) (pe_ix (ix_tupK (K := K) rfl) (pv 1) (pv 2) (fun _ _ => rfl)) (nomark _)))))) pa_nil)))), fun W i hi => ?_⟩
    obtain ⟨S, d⟩ := i
    obtain ⟨h1, h2⟩ := hi
    have h1 : S.length ≤ 4 := h1
    have h2 : d.length = S.length := h2
    refine ST.retTo (EV.cb (EVA.cons (EV.lcY (List.range S.length) tN (fun k => tBl (decide (S.getD k none = none) || decide (S.getD k none = some (d.getD k 0)))) _ (EVI.rng1 (EVA.cons (EV.eq (EV.cb (by walk_at "ev") RC.lenT) (by rw [List.length_map])) EVA.nil) (by omega)) (fun a _ => GT.name (by decide)) (fun W' k hk => ?_) (by rw [List.length_range]; omega)) EVA.nil) RC.allF) rfl
    have hkl := List.mem_range.mp hk
    have e1 : S[k]? = some (S.getD k none) := getD_some hkl
    have e2 : d[k]? = some (d.getD k 0) := getD_some (by omega)
    refine EV.eq (EV.orV (EV.isN (EV.ixT (EV.var rfl) (EV.var rfl) rfl (by rw [List.getElem?_map, e1]; rfl))) fun _ => EV.op (EV.ixT (EV.var rfl) (EV.var rfl) rfl (by rw [List.getElem?_map, e1]; rfl)) (EV.ixT (EV.z (EV.var rfl)) (EV.var rfl) rfl (by rw [List.getElem?_map, e2]; rfl)) (RV.Eq (oV_scal _ _))) ?_
    show tBl _ = tBl _
    congr 2
    · cases S.getD k none with
      | none => rfl
      | some k => rfl
    · exact oV_eq _ _
abbrev sp_all : Sp := pSp (fun R : List (List Nat) => [tRows R]) (fun R => RowsOk R) (fun R => Ty.lst ((allS R).map tDeal))
theorem ok_law_all (T : Tp K mg) : FnOk P w K mg base CX0 1 T.law_all.a T.law_all.fd p_law_all sp_all :=
  pure_okI T.law_all.F sc_law_all (fun _ => rfl) fun R hR cdv A outer s H E hr => by
    have nd := sc_law_all.nd
    have hR : RowsOk R := hR
    refine ⟨_, (pss_cons (ps_set (i := 1) nd rfl (Or.inl rfl) (pe_lst (pa_cons (pe_tupZ pa_nil) pa_nil))) (pss_cons (ps_for PassesOwn.never rfl (pi_tup (pv 0)) (pg_name (i := 2) nd rfl (Or.inl rfl)) (pss_cons (ps_set (i := 3) nd rfl (Or.inl rfl) (pe_lst pa_nil)) (pss_cons (ps_for PassesOwn.never rfl (pi_list (pv 1)) (pg_name (i := 4) nd rfl (Or.inr rfl)) (pss_one (ps_expr (pe_bm PySem.F.plainAttrs_list PySem.F.slot_list_extend PySem.F.type_list_extend mt_extend (pv 3) (pa_cons (pe_lc (own := [("_law_thing", 5)]) rfl nd (pi_tup (pv 2)) (blkOk_by (own := [("_law_thing", 5)]) (N := n_law_all) (sc := defScope s_law_all) (by decide +kernel)) (fun _ _ _ _ _ => (pg_name (i := 5) nd rfl (Or.inl rfl))) (fun _ _ _ _ _ => (pts_one (pt_cmpR (op_notInK (K := K) rfl) (pv 5) (pv 4) rfl))) (fun _ _ _ _ _ => (pe_op (op_catZK (K := K) rfl) (pv 4) (pe_tupZ (pa_cons (pv 5) pa_nil))))) pa_nil))))) (pss_one (ps_set (i := 1) nd rfl (Or.inl rfl) (pv 3)))))) (pss_one (ps_ret (pe_callB (cr_sortT (d := R.length) (B := 4) hR.1) (by rfl) T.b_sorted (by decide +kernel) (pa_cons (pv 1) pa_nil)))))), fun W => ?_⟩
    let F : Nat → List (List Nat) := fun i => (R.take i).foldl stepA [[]]
    let G : Nat → Ctx := fun i => [some (tRows R), some (Ty.lst ((F i).map tDeal)), none, none, none, none]
    have hA : ∀ i, i ≤ R.length → AllOk R.length i (F i) := fun i hi => AllOk.take hR i hi
    have h4 := hR.2.1
    refine ST.asg (EV.eq (U := Ty.lst ((F 0).map tDeal)) (EV.lst (EVA.cons (EV.tupZ EVA.nil (by show 0 ≤ 1000; decide)) EVA.nil) (by show 1 ≤ 1000; decide)) rfl) (ST.sb (SB.forI (vs := [2]) R tRow (fun r g => g.set 2 (some (tRow r))) G (EVI.tup (EV.var rfl)) (fun a _ => GT.name (by decide)) (fun i r hr' => ?_)) ?_)
    · obtain ⟨hi, e⟩ := List.getElem?_eq_some_iff.mp hr'
      have hm : r ∈ R := by rw [← e]; exact List.getElem_mem hi
      have hAi := hA i (Nat.le_of_lt hi)
      have eF : F (i + 1) = stepA (F i) r := by
        show (R.take (i + 1)).foldl stepA [[]] = stepA ((R.take i).foldl stepA [[]]) r
        rw [List.take_succ, hr', List.foldl_append]
        rfl
      have h24 := hAi.few24 (by omega)
      have h24' := (hA (i + 1) hi).few24 (by omega)
      have eM : ((F i).flatMap fun told => ((r.filter fun x => !decide (x ∈ told)).map fun x => told ++ [x]).map tDeal) = (F (i + 1)).map tDeal := by
        rw [eF]
        unfold stepA
        rw [List.map_flatMap]
      refine SB.to (SB.extL (vs := [4]) (F i) tDeal (fun told => ((r.filter fun x => !decide (x ∈ told)).map fun x => told ++ [x]).map tDeal) (fun d g => g.set 4 (some (tDeal d))) (fun l => EVI.list (EV.var rfl)) (fun a _ => GT.name (by decide)) (fun a ha l => rfl) (fun a ha l H σ q => Fr.unset q rfl) (fun l acc hl told ht => ?_) (by rw [eM, List.length_map]; omega) (SB.asg (EV.var rfl))) fun H σ q => ?_
      · obtain ⟨a1, a2, a3⟩ := hAi.len told ht
        have hr4 := hR.len4 hm
        refine EV.eq (EV.lc r tN (fun x => !decide (x ∈ told)) (fun x => tDeal (told ++ [x])) _ (EVI.tup (EV.var rfl)) (fun a _ => GT.name (by decide)) (fun W' x hx => EVT.B (EV.op (EV.var rfl) (EV.z (EV.var rfl)) RV.inTN)) (fun W' x hx _ => EV.eq (EV.op (EV.var rfl) (EV.tupZ (EVA.cons (EV.var rfl) EVA.nil) (by show 1 ≤ 1000; decide)) (RV.catZ (by rw [List.length_map, a1]; show i + 1 ≤ 1000; omega) (by simp))) ?_) (by omega)) ?_
        · show Ty.tupZ _ = Ty.tupZ _
          rw [List.map_append]; rfl
        · show Ty.lst _ = Ty.lst _
          rw [List.map_map]
          rfl
      · rw [eM] at q
        exact Fr.unset (i := 2) (Fr.unset (i := 3) q rfl) rfl
    · have hN := hA R.length (Nat.le_refl _)
      have eN : F R.length = allS R := by show (R.take R.length).foldl stepA [[]] = _; rw [List.take_of_length_le (Nat.le_refl _)]; rfl
      refine ST.retTo (EV.cb (EVA.cons (EV.var rfl) EVA.nil) (RC.sortT (L := F R.length) (by have := hN.few24 h4; omega) (fun d hd => ⟨(hN.len d hd).1, fun x hx => by have := (hN.len d hd).2.2 x hx; omega⟩) hN.asc)) ?_
      rw [eN]
end
end Fo
set_option Elab.async false
set_option linter.all false
set_option maxRecDepth 100000
/-! The law's state: a list of rows, standing, history and elders. Dicts that grow in loops. -/
namespace Fo
open PySem PySem.Spec PyProof.Rows L2
abbrev tTripL (s : St3) : Ty := Ty.tup [tRows s.1, tStand s.2.1, tHist s.2.2]
def StAt (a e : Addr) (s : DSt) (h H : Hp) : Prop := a ≠ e ∧ ∃ v0 v1 v2 ev, H a = some (.lst [v0, v1, v2, .ref e]) ∧ (tRows s.1.1).p h v0 ∧ (tStand s.1.2.1).p h v1 ∧ (tHist s.1.2.2).p h v2 ∧ H e = some (.lst ev) ∧ Al h (s.2.map tTripL) ev
/-- it is one list within the other: not the same -/
theorem StAt.cl {a e : Addr} {s : DSt} : Cl [a, e] (StAt a e s) where
  al := fun {h H x} ⟨_, v0, v1, v2, ev, e1, _, _, _, e2, _⟩ hx => by
    rcases List.mem_cons.mp hx with q | hx
    · rw [q]; exact ⟨_, e1⟩
    · rw [List.mem_singleton.mp hx]; exact ⟨_, e2⟩
  mo := fun {h h' H H'} ⟨hne, v0, v1, v2, ev, e1, p0, p1, p2, e2, al⟩ x k => ⟨hne, v0, v1, v2, ev, by rw [k a (by simp)]; exact e1, (tRows _).mo x p0, (tStand _).mo x p1, (tHist _).mo x p2, by rw [k e (by simp)]; exact e2, al.mo x⟩
abbrev HasS (a e : Addr) (s : DSt) (W : Wd) : Prop := Has W [a, e] (StAt a e s)
section
variable {K : PySem.W.Frag} {W : Wd} {G : Ctx} {te : TE} {a e : Addr} {s : DSt}
theorem EV.sel {T : Ty} {i : Nat} (c : HasS a e s W) (h : EV W G te (Ty.is (.ref a))) (hi : ∀ H, W.ok H → ∀ v0 v1 v2 ev, H a = some (.lst [v0, v1, v2, .ref e]) → (tRows s.1.1).p (W.v H) v0 → (tStand s.1.2.1).p (W.v H) v1 → (tHist s.1.2.2).p (W.v H) v2 → H e = some (.lst ev) → ∃ z, [v0, v1, v2, V.ref e][i]? = some z ∧ T.p (W.v H) z) :
    EV W G (tOp (rIxL K) te (tC (.int (i : Int)))) T := ⟨fun ok fr k => h.run ok fr fun v H1 s1 p => by
  cases p
  obtain ⟨_, v0, v1, v2, ev, e1, p0, p1, p2, e2, al⟩ := c.at s1.2
  obtain ⟨z, hz, pz⟩ := hi H1 s1.2 v0 v1 v2 ev e1 p0 p1 p2 e2
  exact ⟨a, _, (i : Int), z, rfl, rfl, SqL.of e1, atI_nat hz, k z H1 s1 pz⟩⟩
theorem EV.s0 (c : HasS a e s W) (h : EV W G te (Ty.is (.ref a))) : EV W G (tOp (rIxL K) te (tC (.int 0))) (tRows s.1.1) := EV.sel (i := 0) c h fun _ _ v0 _ _ _ _ p0 _ _ _ => ⟨v0, rfl, p0⟩
theorem EV.s1 (c : HasS a e s W) (h : EV W G te (Ty.is (.ref a))) : EV W G (tOp (rIxL K) te (tC (.int 1))) (tStand s.1.2.1) := EV.sel (i := 1) c h fun _ _ _ v1 _ _ _ _ p1 _ _ => ⟨v1, rfl, p1⟩
theorem EV.s2 (c : HasS a e s W) (h : EV W G te (Ty.is (.ref a))) : EV W G (tOp (rIxL K) te (tC (.int 2))) (tHist s.1.2.2) := EV.sel (i := 2) c h fun _ _ _ _ v2 _ _ _ _ p2 _ => ⟨v2, rfl, p2⟩
theorem EV.s3 (c : HasS a e s W) (h : EV W G te (Ty.is (.ref a))) : EV W G (tOp (rIxL K) te (tC (.int 3))) (Ty.is (.ref e)) := EV.sel (i := 3) c h fun _ _ _ _ _ _ _ _ _ _ _ => ⟨_, rfl, rfl⟩
theorem EV.lenElders (c : HasS a e s W) (h : EV W G te (Ty.is (.ref a))) : EV W G (tCB (rLenS K) (tCons (tOp (rIxL K) te (tC (.int 3))) tNil)) (tN s.2.length) := ⟨fun ok fr k => (EV.s3 c h).run ok fr fun v H1 s1 p => by
  cases p
  obtain ⟨_, v0, v1, v2, ev, e1, p0, p1, p2, e2, al⟩ := c.at s1.2
  refine ⟨e, ev, rfl, .inl (SqL.of e2), k _ H1 s1 ?_⟩
  show V.int _ = V.int _
  rw [← al.len, List.length_map]⟩
end
/-! ### dicts that grow in a loop -/
/-- for a in L: if f a: d[kk a] = vv a -/
theorem ST.dputL {W : Wd} {wi : TI} {g : TG} {tt : TT} {tk tv : TE} {u0 : TS} {vs : List Nat} {i : Nat} {G : Ctx} {R : Ty} {α : Type} (L : List α) (X : α → Ty) (f : α → Bool) (kk vv : α → Nat) (u : α → Ctx → Ctx)
    (hi : ∀ l, EVI (W.own l (.dK []) trivial) (G.set i (some (Ty.is (.ref l)))) wi (L.map X)) (hg : ∀ a ∈ L, GT g (X a) (u a) vs) (hu : ∀ a ∈ L, ∀ l, (u a (G.set i (some (Ty.is (.ref l)))))[i]? = some (some (Ty.is (.ref l)))) (hd : ∀ a ∈ L, ∀ l H σ, Fr H (u a (G.set i (some (Ty.is (.ref l))))) σ → Fr H (G.set i (some (Ty.is (.ref l)))) σ)
    (ht : ∀ l o, l ∉ W.M → ∀ a ∈ L, EVT (W.own l o trivial) (u a (G.set i (some (Ty.is (.ref l))))) tt (f a)) (hk : ∀ l o, l ∉ W.M → ∀ a ∈ L, f a = true → EV (W.own l o trivial) (u a (G.set i (some (Ty.is (.ref l))))) tk (tN (kk a))) (hv : ∀ l o, l ∉ W.M → ∀ a ∈ L, f a = true → EV (W.own l o trivial) (u a (G.set i (some (Ty.is (.ref l))))) tv (tN (vv a)))
    (hnd : (L.map kk).Nodup) (hl : L.length ≤ 900)
    (k : ST W (G.set i (some (Ty.dic ((L.filter f).map fun a => (kk a, vv a))))) u0 R) :
    ST W G (tSeq (tAsg tDNewK (gName i)) (tSeq (tFor wi g (tIfS tt (sDPut (tVar i) tk tv) tNext)) u0)) R := ⟨fun {σ H D} ok fr kn kr => by
  intro l hlf
  have hlM := ok.nM hlf
  let Z : Nat → List (Nat × Nat) := fun j => ((L.take j).filter f).map fun a => (kk a, vv a)
  have okO : (W.own l (.dK []) trivial).ok (upd H l (.dK [])) := ok.own hlf
  have vO : (W.own l (.dK []) trivial).v (upd H l (.dK [])) = W.v H := own_v ok hlf
  have frO : Fr ((W.own l (.dK []) trivial).v (upd H l (.dK []))) (G.set i (some (Ty.is (.ref l)))) (σ.set i (some (.ref l))) := by rw [vO]; exact Fr.set rfl i fr
  refine (hi l).run okO frO fun J H1 gd s1 hg1 I => ?_
  let Pv : Nat → L2.St → Hp → Prop := fun j σ' H' => (W.own l (.dK (kvN (Z j))) trivial).ok H' ∧ Xt ((W.own l (.dK []) trivial).v H1) ((W.own l (.dK (kvN (Z j))) trivial).v H') ∧ Fr ((W.own l (.dK (kvN (Z j))) trivial).v H') (G.set i (some (Ty.is (.ref l)))) σ'
  have P0 : Pv 0 (σ.set i (some (.ref l))) H1 := ⟨s1.2, Xt.refl _, frO.mo s1.1⟩
  refine ⟨fun j m σ' H' => m = L.length - j ∧ j ≤ L.length ∧ Pv j σ' H', ⟨L.length, by simp, Nat.zero_le _, P0⟩, ?_⟩
  rintro j m σ' H' ⟨rfl, hjl, okD, x, frD⟩
  have gH := I.mo hg1 x
  by_cases hlt : j < L.length
  · refine .inr ⟨I.go gH (vis_sub _ _) (by rw [List.length_map]; exact hlt), fun σ2 H2 => j + 1 ≤ L.length ∧ Pv (j + 1) σ2 H2, fun σ2 H2 p => ⟨L.length - (j + 1), by omega, rfl, p⟩, fun y H2 hy => ?_⟩
    have ha : L[j]? = some L[j] := List.getElem?_eq_getElem hlt
    have hm : L[j] ∈ L := List.getElem_mem hlt
    obtain ⟨xH, py⟩ := I.yld okD gH (by rw [List.getElem?_map, ha]; rfl) hy
    have s2 := okD.pure xH
    refine hg _ hm _ H2 _ _ y _ (frD.mo s2.1) py fun σ3 fr3 _ => ?_
    refine (ht l _ hlM _ hm).run s2.2 fr3 fun H4 s4 => ?_
    have et : Z (j + 1) = Z j ++ (if f L[j] = true then [(kk L[j], vv L[j])] else []) := by
      show ((L.take (j + 1)).filter f).map _ = _
      rw [take_filter_step hlt, List.map_append]
      by_cases hf : f L[j] = true
      · rw [if_pos hf, if_pos hf]; rfl
      · rw [if_neg hf, if_neg hf]; rfl
    by_cases hf : f L[j] = true
    · rw [if_pos hf]
      have hnot : kk L[j] ∉ (Z j).map (·.1) := fun hmem => by
        obtain ⟨q, hq, e⟩ := List.mem_map.mp hmem
        obtain ⟨a, ha2, rfl⟩ := List.mem_map.mp hq
        have ha3 := (List.mem_filter.mp ha2).1
        obtain ⟨j2, hj2, hje⟩ := List.getElem_of_mem ha3
        rw [List.length_take] at hj2
        rw [List.getElem_take] at hje
        have hj1 : j2 < L.length := by omega
        have := (List.getElem_inj (h₀ := by rw [List.length_map]; exact hj1) (h₁ := by rw [List.length_map]; exact hlt) hnd (i := j2) (j := j)).mp (by rw [List.getElem_map, List.getElem_map, hje]; exact e)
        omega
      refine run_dput (W := W.own l (.dK (kvN (Z j))) trivial) (L := Z j) (a := l) (EV.var (hu _ hm l)) (hk l _ hlM _ hm hf) (hv l _ hlM _ hm hf) (fun H o => o.at) ?_ s4.2 (fr3.mo s4.1) fun H5 s5 fr5 => ?_
      · show (((L.take j).filter f).map _).length ≤ 900
        rw [List.length_map]
        have := List.length_filter_le f (L.take j)
        rw [List.length_take] at this
        omega
      · have e6 : putN (Z j) (kk L[j]) (vv L[j]) = Z (j + 1) := by
          rw [et, if_pos hf]
          exact if_neg hnot
        rw [e6]
        refine ⟨hlt, s5.2.put hlM, ?_, ?_⟩
        · rw [own_put (n := trivial)]
          exact ((x.trans s2.1).trans s4.1).trans s5.1
        · rw [own_put (n := trivial)]
          exact hd _ hm l _ _ fr5
    · rw [if_neg hf]
      have e6 : Z (j + 1) = Z j := by rw [et, if_neg hf, List.append_nil]
      refine ⟨hlt, ?_⟩
      show (W.own l (.dK (kvN (Z (j + 1)))) trivial).ok H4 ∧ Xt _ ((W.own l (.dK (kvN (Z (j + 1)))) trivial).v H4) ∧ Fr ((W.own l (.dK (kvN (Z (j + 1)))) trivial).v H4) _ _
      rw [e6]
      exact ⟨s4.2, (x.trans s2.1).trans s4.1, hd _ hm l _ _ (fr3.mo s4.1)⟩
  · have e : j = L.length := by omega
    subst e
    refine .inl ⟨by have := I.stop gH (vis_sub _ _); rwa [List.length_map] at this, ?_⟩
    have eZ : Z L.length = (L.filter f).map fun a => (kk a, vv a) := by
      show ((L.take L.length).filter f).map _ = _
      rw [List.take_of_length_le (Nat.le_refl _)]
    rw [eZ] at okD x frD
    have sub : Xt ((W.own l (.dK (kvN ((L.filter f).map fun a => (kk a, vv a)))) trivial).v H') (W.v H') := own_sub
    have xx : Xt (W.v H) ((W.own l (.dK []) trivial).v H1) := by have := s1.1; rwa [vO] at this
    have s : W.st H H' := ⟨xx.trans (x.trans sub), okD.show_⟩
    refine k.run s.2 (Fr.up (fun v e => ?_) i (frD.mo sub)) (fun σ2 H2 s2 => kn σ2 H2 (s.trans s2)) fun v H2 s2 => kr v H2 (s.trans s2)
    have e : v = .ref l := e
    subst e
    refine ⟨l, rfl, ?_⟩
    rw [Wd.v, vis_eq hlM]
    exact okD.at⟩
end Fo
set_option Elab.async false
set_option linter.all false
set_option maxRecDepth 100000
set_option maxHeartbeats 1000000
namespace Fo
open PySem PySem.Spec PyProof.Rows L2
local macro_rules | `(tactic| walk_at "ev") => `(tactic| first
  | ((with_reducible apply EV.var); rfl)
  | (with_reducible exact EV.cst)
  | (with_reducible exact EVA.nil)
  | (with_reducible exact EVO.none)
  | ((with_reducible apply EVO.some); (· walk_at "ev"))
  | ((with_reducible apply EVA.cons); (· walk_at "ev"); (· walk_at "ev"))
  | ((with_reducible apply EV.op); (· walk_at "ev"); (· walk_at "ev"); (· walk_at "rv"))
  | ((with_reducible apply EV.un); (· walk_at "ev"); (· exact RU.neg))
  | ((with_reducible apply EV.chain); (· walk_at "ev"); (· walk_at "ev"); (· walk_at "rv"); (· walk_at "ev"); (· walk_at "rv"))
  | ((with_reducible apply EV.cb); (· walk_at "ev"); (· walk_at "rv"))
  | ((with_reducible apply EV.bits); (· walk_at "ev"))
  | ((with_reducible apply EV.slT); (· walk_at "ev"); (· walk_at "ev"); (· walk_at "ev"))
  | ((with_reducible apply EV.isN); (· walk_at "ev"))
  | ((with_reducible apply EV.notN); (· walk_at "ev"))
  | ((with_reducible apply EV.notV); (· walk_at "ev"))
  | ((with_reducible apply EV.andV); (· walk_at "ev"); (· intro _; walk_at "ev"))
  | ((with_reducible apply EVT.test); (· walk_at "ev"))
  | ((with_reducible apply EVT.B); (· walk_at "ev"))
  | ((with_reducible apply EVT.not); (· walk_at "ev"))
  | ((with_reducible apply EV.tup); (· walk_at "ev"); (· decide))
  | ((with_reducible apply EV.lst); (· walk_at "ev"); (· decide))
  | ((with_reducible apply EVI.list); (· walk_at "ev"))
  | ((with_reducible apply EVI.tup); (· walk_at "ev"))
  | ((with_reducible apply EVI.enum); (· walk_at "ev"))
  | ((with_reducible apply EVI.enumT); (· walk_at "ev"))
  | ((with_reducible apply EVI.zipT); (· walk_at "ev"); (· walk_at "ev")))
local macro_rules | `(tactic| walk_at "rv") => `(tactic| first
  | exact RV.I0
  | exact RV.oneShl (by decide)
  | exact RV.shrN
  | exact RV.odd
  | exact RC.isi_ii
  | exact RC.isi_ib
  | exact RC.isi_tt
  | exact RC.isi_ss
  | exact RC.lenT
  | exact RC.lenL
  | exact RC.sumF
  | exact RC.allF
  | exact RV.inTN
  | exact RV.inLN
  | exact RV.inTO
  | exact RC.tupOf
  | exact RC.lstOfT
  | exact RC.lstOfL
  | exact RC.int
  | exact RC.intB
  | exact RC.abs
  | exact RV.Eq rfl
  | exact RV.Ne rfl)
/-! ## the law's own reckoning, on its state -/
def lawSettled (L : List (List Nat)) (n : Nat) : List (Nat × Nat) := ((List.range n).filter fun p => oneOf (L.map fun d => d.getD p 0)).map fun p => (p, (L.headD []).getD p 0)
def gets (c : Bool × Nat) (d : List Nat) : Nat := if c.1 then d.getD c.2 0 else d.idxOf c.2
def lawStrike (s : St3) (p x : Nat) : Option (List (List Nat)) :=
  if x ∉ s.1.getD p [] ∨ s.2.1.getD p none = some x then none
  else if (deals (s.1.set p (cutR (s.1.getD p []) x), s.2)).length = 0 then none else some (s.1.set p (cutR (s.1.getD p []) x))
def tOR : Option (List (List Nat)) → Ty
  | none => tNon
  | some R => tRows R
section
variable {P : Program} {w : World} {K : PySem.W.Frag} {mg : Str → Option Value} {base : Heap}
/-- what is read of the state -/
abbrev hS {α : Type} (ok : DSt → α → Prop) (i : Addr × Addr × DSt × α) (W : Wd) : Prop := HasS i.1 i.2.1 i.2.2.1 W ∧ ok i.2.2.1 i.2.2.2
abbrev sp_deals : Sp := gSp (hS fun s (_ : Unit) => Sok s.1) (fun i => [Ty.is (.ref i.1)]) (fun i => Ty.lst ((deals i.2.2.1.1).map tDeal))
theorem deals_len {s : St3} (h : Sok s) : (deals s).length ≤ 24 := by
  have h1 := (AllOk.all h.1).few24 h.1.2.1
  have h2 := List.length_filter_le (fits s.2.1) (allS s.1)
  unfold deals
  omega
theorem deals_mem {s : St3} (h : Sok s) {d : List Nat} (hd : d ∈ deals s) : d.length = s.1.length ∧ d.Nodup ∧ (∀ x ∈ d, x < s.1.length) ∧ fits s.2.1 d = true := by
  obtain ⟨a, b⟩ := List.mem_filter.mp hd
  obtain ⟨c1, c2, c3⟩ := (AllOk.all h.1).len d a
  exact ⟨c1, c2, c3, b⟩
theorem ok_law_deals (T : Tp K mg) : FnOk P w K mg base CX0 2 T.law_deals.a T.law_deals.fd p_law_deals sp_deals :=
  g_ok T.law_deals.F sc_law_deals (fun _ => rfl) fun cdv A outer s H E hr => by
    have nd := sc_law_deals.nd
    refine ⟨_, (pss_one (ps_ret (pe_lc (own := [("_law_told", 1)]) rfl nd (pi_list (pe_call (ok_law_all T) (hr.mono (by first | decide | omega)) rfl T.law_all.m T.law_all.F.kp T.law_all.b .nil pass0 (pa_cons (pe_ix ix_list (pv 0) pe_int (fun _ _ => rfl)) pa_nil))) (blkOk_by (own := [("_law_told", 1)]) (N := n_law_deals) (sc := defScope s_law_deals) (by decide +kernel)) (fun _ _ _ _ _ => (pg_name (i := 1) nd rfl (Or.inl rfl))) (fun _ _ _ _ _ => (pts_one (pt_val (pe_call (ok_law_fits T) (hr.mono (by first | decide | omega)) rfl T.law_fits.m T.law_fits.F.kp T.law_fits.b .nil pass0 (pa_cons (pe_ix (ix_listK (K := K) rfl) (pv 0) pe_int (fun _ _ => rfl)) (pa_cons (pv 1) pa_nil)))))) (fun _ _ _ _ _ => (pv 1))))), fun W i hi => ?_⟩
    obtain ⟨a, e, s, u⟩ := i
    obtain ⟨hs, ho⟩ := hi
    have hs : HasS a e s W := hs
    have ho : Sok s.1 := ho
    have hA := AllOk.all ho.1
    have h24 := hA.few24 ho.1.2.1
    refine ST.ret (EV.eq (EV.lcW (allS s.1.1) tDeal (fits s.1.2.1) tDeal _ (EVI.list (EV.call s.1.1 (EVA.cons (EV.s0 hs (EV.var rfl)) EVA.nil) ho.1)) (fun a _ => GT.name (by decide)) (fun D o hD d hd => EVT.B (EV.call (s.1.2.1, d) (EVA.cons (EV.s1 (Has.own hs) (EV.var rfl)) (EVA.cons (EV.var rfl) EVA.nil)) ⟨ho.l4, by rw [(hA.len d hd).1]; exact ho.2.1.symm⟩)) (fun D o hD d hd _ => EV.var rfl) (by omega)) rfl)
theorem ok_law_comers (T : Tp K mg) : FnOk P w K mg base CX0 1 T.law_comers.a T.law_comers.fd p_law_comers (pSp (fun S : List (Option Nat) => [tStand S]) (fun S => S.length ≤ 4) (fun S => Ty.lst ((waiting S).map tComer))) :=
  pure_ok T.law_comers.F sc_law_comers (fun _ => rfl) fun cdv A outer s H E hr => by
    have nd := sc_law_comers.nd
    refine ⟨_, (pss_cons (ps_set (i := 1) nd rfl (Or.inl rfl) (pe_callB call_len_seq (by rfl) T.b_len PySem.boot_len (pa_cons (pv 0) pa_nil))) (pss_cons (ps_setLc (i := 2) (own := [("_law_k", 3)]) rfl nd rfl rfl (sw_true rfl rfl rfl (by decide +kernel)) (pi_range1 (by rfl) T.b_range (pa_cons (pv 1) pa_nil)) (blkOk_by (own := [("_law_k", 3)]) (N := n_law_comers) (sc := defScope s_law_comers) (by decide +kernel)) (fun _ _ _ _ _ => (pg_name (i := 3) nd rfl (Or.inl rfl))) (fun _ _ _ _ _ => (pts_one (pt_cmp (pc_isN (pe_ix (ix_tupK (K := K) rfl) (pv 0) (pv 3) (fun _ _ => rfl)))))) (fun _ _ _ _ _ => (pe_tup (pa_cons pe_str (pa_cons (pv 3) pa_nil))))) (pss_one (ps_ret (pe_op op_cat (pv 2) (pe_lc (own := [("_law_k", 3)]) rfl nd (pi_range1 (by rfl) T.b_range (pa_cons (pv 1) pa_nil)) (blkOk_by (own := [("_law_k", 3)]) (N := n_law_comers) (sc := defScope s_law_comers) (by decide +kernel)) (fun _ _ _ _ _ => (pg_name (i := 3) nd rfl (Or.inl rfl))) (fun _ _ _ _ _ => (pts_one (pt_cmpR (op_notInK (K := K) rfl) (pv 3) (pv 0) rfl))) (fun _ _ _ _ _ => (pe_tup (pa_cons pe_str (pa_cons (pv 3) pa_nil)))))))))), fun W S hS => ?_⟩
    have hS : S.length ≤ 4 := hS
    have l1 : (und S).length ≤ 4 := by
      have := List.length_filter_le (fun i => decide (S.getD i none = none)) (List.range S.length)
      rw [List.length_range] at this
      unfold und
      omega
    have l2 : (unu S).length ≤ 4 := by
      have := List.length_filter_le (fun x => !decide (some x ∈ S)) (List.range S.length)
      rw [List.length_range] at this
      unfold unu
      omega
    refine ST.asg (EV.eq (EV.cb (by walk_at "ev") RC.lenT) (by rw [List.length_map])) ?_
    refine ST.asg (EV.lc (List.range S.length) tN (fun i => decide (S.getD i none = none)) (fun p => tComer (true, p)) _ (EVI.rng1 (EVA.cons (EV.var rfl) EVA.nil) (by omega)) (fun a _ => GT.name (by decide)) (fun W' k hk => ?_) (fun W' a ha _ => EV.tup (EVA.cons EV.cst (EVA.cons (EV.var rfl) EVA.nil)) (by show 2 ≤ 1000; decide)) (by rw [List.length_range]; omega)) ?_
    · have e1 : S[k]? = some (S.getD k none) := getD_some (List.mem_range.mp hk)
      refine EVT.eq (EVT.B (EV.isN (EV.ixT (EV.var rfl) (EV.var rfl) rfl (by rw [List.getElem?_map, e1]; rfl)))) ?_
      cases S.getD k none with
      | none => rfl
      | some k => rfl
    refine ST.ret (EV.eq (EV.op (EV.var rfl) (EV.lc (List.range S.length) tN (fun x => !decide (some x ∈ S)) (fun x => tComer (false, x)) _ (EVI.rng1 (EVA.cons (EV.var rfl) EVA.nil) (by omega)) (fun a _ => GT.name (by decide)) (fun W' a ha => EVT.B (EV.op (EV.var rfl) (EV.var rfl) RV.inTO)) (fun W' a ha _ => EV.tup (EVA.cons EV.cst (EVA.cons (EV.var rfl) EVA.nil)) (by show 2 ≤ 1000; decide)) (by rw [List.length_range]; omega)) (RV.cat ?_)) ?_)
    · rw [List.length_map, List.length_map]
      show (und S).length + (unu S).length ≤ 1000
      omega
    · show Ty.lst _ = Ty.lst _
      unfold waiting
      rw [List.map_append, List.map_map, List.map_map]
      rfl
/-- deals, a comer, what it may get -/
structure ChOk (L : List (List Nat)) (c : Bool × Nat) (ms : List Nat) : Prop where
  len : ∀ d ∈ L, c.2 < d.length
  has : c.1 = false → ∀ d ∈ L, c.2 ∈ d
  few : L.length ≤ 24
  asc : ms.Pairwise (· < ·)
  mem : ∀ k, k ∈ ms ↔ k ∈ L.map (gets c)
abbrev sp_law_choices : Sp := pSp (fun i : List (List Nat) × (Bool × Nat) × List Nat => [Ty.lst (i.1.map tDeal), tComer i.2.1]) (fun i => ChOk i.1 i.2.1 i.2.2) (fun i => Ty.lst (i.2.2.map tN))
theorem idx_at {d : List Nat} {x : Nat} (h : x ∈ d) : d[d.idxOf x]? = some x ∧ ∀ m, m < d.idxOf x → d[m]? ≠ some x := by
  refine ⟨by rw [List.getElem?_eq_getElem (List.idxOf_lt_length_of_mem h)]; exact congrArg some (List.getElem_idxOf _), fun m hm z => ?_⟩
  induction d generalizing m with
  | nil => cases h
  | cons a d ih =>
    by_cases e : a = x
    · subst e
      rw [List.idxOf_cons_self] at hm
      omega
    · have e2 : (a :: d).idxOf x = d.idxOf x + 1 := by rw [List.idxOf_cons, show (a == x) = false from beq_eq_false_iff_ne.mpr e]; rfl
      rw [e2] at hm
      have hx : x ∈ d := (List.mem_cons.mp h).resolve_left fun q => e q.symm
      cases m with
      | zero => exact e (Option.some.inj z)
      | succ m => exact ih hx m (by omega) z
theorem ok_law_choices (T : Tp K mg) : FnOk P w K mg base CX0 1 T.law_choices.a T.law_choices.fd p_law_choices sp_law_choices :=
  pure_ok T.law_choices.F sc_law_choices (fun _ => rfl) fun cdv A outer s H E hr => by
    have nd := sc_law_choices.nd
    refine ⟨_, (pss_cons (ps_if (pt_cmpR op_eq (pe_ix ix_tup (pv 1) pe_int (fun _ _ => rfl)) pe_str (nomark _)) (pss_one (ps_ret (pe_callB (cr_sortedSet rfl) (by rfl) T.b_sorted (by decide +kernel) (pa_cons (pe_callTy (cr_setI rfl) (by rfl) T.b_set (by decide +kernel) (pa_cons (pe_lc (own := [("_law_told", 2)]) rfl nd (pi_list (pv 0)) (blkOk_by (own := [("_law_told", 2)]) (N := n_law_choices) (sc := defScope s_law_choices) (by decide +kernel)) (fun _ _ _ _ _ => (pg_name (i := 2) nd rfl (Or.inl rfl))) (fun _ _ _ _ _ => pts_nil) (fun _ _ _ _ _ => (pe_ix (ix_tupK (K := K) rfl) (pv 2) (pe_ix (ix_tupK (K := K) rfl) (pv 1) pe_int (fun _ _ => rfl)) (fun _ _ => rfl)))) pa_nil)) pa_nil)))) pss_nil) (pss_one (ps_ret (pe_callB (cr_sortedSet rfl) (by rfl) T.b_sorted (by decide +kernel) (pa_cons (pe_callTy (cr_setI rfl) (by rfl) T.b_set (by decide +kernel) (pa_cons (pe_lc (own := [("_law_told", 2)]) rfl nd (pi_list (pv 0)) (blkOk_by (own := [("_law_told", 2)]) (N := n_law_choices) (sc := defScope s_law_choices) (by decide +kernel)) (fun _ _ _ _ _ => (pg_name (i := 2) nd rfl (Or.inl rfl))) (fun _ _ _ _ _ => pts_nil) (fun _ _ _ _ _ => (pe_tindexK (K := K) rfl (pv 2) (pa_cons (pe_ix (ix_tupK (K := K) rfl) (pv 1) pe_int (fun _ _ => rfl)) pa_nil)))) pa_nil)) pa_nil))))), fun W i hi => ?_⟩
    obtain ⟨L, ⟨b, n⟩, ms⟩ := i
    have hi : ChOk L (b, n) ms := hi
    have few := hi.few
    refine ST.if_ (EVT.isP (c := (b, n)) rfl) (fun h => ?_) (fun h => ST.skip ?_)
    · have h : b = true := h
      subst h
      refine ST.retSeq (EV.cb (EVA.cons (EV.cb (EVA.cons (EV.eq (EV.lcY L tDeal (fun d => tN (gets (true, n) d)) _ (EVI.list (EV.var rfl)) (fun a _ => GT.name (by decide)) (fun W' d hd => ?_) (by omega)) (by rw [List.map_map]; rfl)) EVA.nil) (RC.setN (ns := L.map (gets (true, n))) (by rw [List.length_map]; omega))) EVA.nil) (RC.sortedSetN (by rw [List.length_map]; omega) hi.asc hi.mem))
      have hn : n < d.length := hi.len d hd
      exact EV.ixT (EV.z (EV.var rfl)) (EV.num (c := (true, n)) rfl) rfl (by rw [List.getElem?_map, getD_some (z := 0) hn]; rfl)
    · have h : b = false := h
      subst h
      refine ST.ret (EV.cb (EVA.cons (EV.cb (EVA.cons (EV.eq (EV.lcY L tDeal (fun d => tN (gets (false, n) d)) _ (EVI.list (EV.var rfl)) (fun a _ => GT.name (by decide)) (fun W' d hd => ?_) (by omega)) (by rw [List.map_map]; rfl)) EVA.nil) (RC.setN (ns := L.map (gets (false, n))) (by rw [List.length_map]; omega))) EVA.nil) (RC.sortedSetN (by rw [List.length_map]; omega) hi.asc hi.mem))
      obtain ⟨h1, h2⟩ := idx_at (hi.has rfl d hd)
      exact EV.tindex (EV.var rfl) (EV.num (c := (false, n)) rfl) h1 h2
theorem ok_law_settled (T : Tp K mg) : FnOk P w K mg base CX0 1 T.law_settled.a T.law_settled.fd p_law_settled (pSp (fun i : List (List Nat) × Nat => [Ty.lst (i.1.map tDeal)]) (fun i => i.1 ≠ [] ∧ i.1.length ≤ 24 ∧ i.2 ≤ 4 ∧ ∀ d ∈ i.1, d.length = i.2) (fun i => Ty.dic (lawSettled i.1 i.2))) :=
  pure_ok T.law_settled.F sc_law_settled (fun _ => rfl) fun cdv A outer s H E hr => by
    have nd := sc_law_settled.nd
    refine ⟨_, (pss_cons (ps_set (i := 1) nd rfl (Or.inl rfl) pe_dnewK) (pss_cons (ps_for PassesOwn.never rfl (pi_range1 (by rfl) T.b_range (pa_cons (pe_callB call_len_seq (by rfl) T.b_len PySem.boot_len (pa_cons (pe_ix ix_list (pv 0) pe_int (fun _ _ => rfl)) pa_nil)) pa_nil)) (pg_name (i := 2) nd rfl (Or.inr rfl)) (pss_one (ps_if (pt_cmpR op_eq (pe_callB cr_lenSet (by rfl) T.b_len PySem.boot_len (pa_cons (pe_callTy (cr_setI rfl) (by rfl) T.b_set (by decide +kernel) (pa_cons (pe_lc (own := [("_law_told", 3)]) rfl nd (pi_list (pv 0)) (blkOk_by (own := [("_law_told", 3)]) (N := n_law_settled) (sc := defScope s_law_settled) (by decide +kernel)) (fun _ _ _ _ _ => (pg_name (i := 3) nd rfl (Or.inl rfl))) (fun _ _ _ _ _ => pts_nil) (fun _ _ _ _ _ => (pe_ix (ix_tupK (K := K) rfl) (pv 3) (pv 2) (fun _ _ => rfl)))) pa_nil)) pa_nil)) pe_int (nomark _)) (pss_one (ps_dput (hu_of hr) (pv 1) (pv 2) (pe_ix ix_tup (pe_ix ix_list (pv 0) pe_int (fun _ _ => rfl)) (pv 2) (fun _ _ => rfl)) rfl)) pss_nil))) (pss_one (ps_ret (pv 1))))), fun W i hi => ?_⟩
    obtain ⟨L, n⟩ := i
    obtain ⟨h1, h2, h3, h4⟩ := hi
    have h2 : L.length ≤ 24 := h2
    have h3 : n ≤ 4 := h3
    have h4 : ∀ d ∈ L, d.length = n := h4
    obtain ⟨d0, L0, rfl⟩ : ∃ d0 L0, L = d0 :: L0 := by cases L with
      | nil => exact absurd rfl h1
      | cons a b => exact ⟨a, b, rfl⟩
    have e0 : d0.length = n := h4 d0 List.mem_cons_self
    have hL : (L0.length + 1) ≤ 24 := h2
    refine ST.dputL (i := 1) (vs := [2]) (List.range n) tN (fun p => oneOf ((d0 :: L0).map fun d => d.getD p 0)) (fun p => p) (fun p => d0.getD p 0) (fun p g => g.set 2 (some (tN p))) (fun l => EVI.rng1 (EVA.cons (EV.eq (EV.cb (EVA.cons (EV.z (EV.ixL (j := 0) (EV.var rfl) EV.cst rfl rfl)) EVA.nil) RC.lenT) (by rw [List.length_map, e0])) EVA.nil) (by omega)) (fun a _ => GT.name (by decide)) (fun a ha l => rfl) (fun a ha l H σ q => Fr.unset q rfl) (fun l o hl p hp => ?_) (fun l o hl p hp _ => EV.var rfl) (fun l o hl p hp _ => ?_) (by rw [List.map_id']; exact List.nodup_range) (by rw [List.length_range]; omega) (ST.ret (EV.var rfl))
    · have hpl := List.mem_range.mp hp
      refine EVT.one (EV.cb (EVA.cons (EV.eq (EV.lcY (d0 :: L0) tDeal (fun d => tN (d.getD p 0)) _ (EVI.list (EV.var rfl)) (fun a _ => GT.name (by decide)) (fun W' d hd => ?_) (by rw [List.length_cons]; omega)) (by rw [List.map_map]; rfl)) EVA.nil) (RC.setN (by rw [List.length_map, List.length_cons]; omega))) (by rw [List.length_map, List.length_cons]; omega)
      exact EV.ixT (EV.z (EV.var rfl)) (EV.var rfl) rfl (by rw [List.getElem?_map, getD_some (z := 0) (by have := h4 d hd; omega)]; rfl)
    · have hpl := List.mem_range.mp hp
      exact EV.ixT (EV.z (EV.ixL (j := 0) (EV.var rfl) EV.cst rfl rfl)) (EV.var rfl) rfl (by rw [List.getElem?_map, getD_some (z := 0) (by omega)]; rfl)
abbrev sp_law_row (f : List Nat → Nat → List Nat) : Sp := pSp (fun i : List (List Nat) × Nat × Nat => [tRows i.1, tN i.2.1, tN i.2.2]) (fun i => RowsOk i.1 ∧ i.2.1 < i.1.length) (fun i => tRows (i.1.set i.2.1 (f (i.1.getD i.2.1 []) i.2.2)))
theorem ok_law_without (T : Tp K mg) : FnOk P w K mg base CX0 1 T.law_without.a T.law_without.fd p_law_without (sp_law_row cutR) :=
  pure_ok T.law_without.F sc_law_without (fun _ => rfl) fun cdv A outer s H E hr => by
    have nd := sc_law_without.nd
    refine ⟨_, (pss_one (ps_ret (pe_op op_catA (pe_op op_catA (pe_slice sl_tupA (pv 0) po_none (po_some (pv 1))) (pe_tup (pa_cons (pe_callTy call_tuple_of (by rfl) T.b_tuple (by decide +kernel) (pa_cons (pe_lc (own := [("_law_other", 3)]) rfl nd (pi_tup (pe_ix ix_tup (pv 0) (pv 1) (fun _ _ => rfl))) (blkOk_by (own := [("_law_other", 3)]) (N := n_law_without) (sc := defScope s_law_without) (by decide +kernel)) (fun _ _ _ _ _ => (pg_name (i := 3) nd rfl (Or.inl rfl))) (fun _ _ _ _ _ => (pts_one (pt_cmpR op_ne (pv 3) (pv 2) (nomark _)))) (fun _ _ _ _ _ => (pv 3))) pa_nil)) pa_nil))) (pe_slice sl_tupA (pv 0) (po_some (pe_op op_add (pv 1) pe_int)) po_none)))), fun W i hi => ?_⟩
    obtain ⟨R, p, x⟩ := i
    obtain ⟨hR, hp⟩ := hi
    have hR : RowsOk R := hR
    have hp : p < R.length := hp
    have h4 := hR.2.1
    have hm := hR.row hp
    refine ST.ret (EV.eq (T := Ty.tup ((R.take p).map tRow ++ [tRow (cutR (R.getD p []) x)] ++ (R.drop (p + 1)).map tRow)) ?_ (congrArg Ty.tup (set_cut (f := tRow) (cutR (R.getD p []) x) hp)))
    refine EV.op (EV.op ?_ (EV.tup (EVA.cons (EV.cb (EVA.cons (EV.lc (R.getD p []) tN (fun y => !decide (y = x)) tN _ (EVI.tup (EV.ixT (EV.var rfl) (EV.var rfl) rfl (by rw [List.getElem?_map, getD_some (z := ([] : List Nat)) hp]; rfl))) (fun a _ => GT.name (by decide)) (fun W' a ha => EVT.eq (EVT.B (EV.op (EV.var rfl) (EV.var rfl) (RV.Ne rfl))) (ne_n a x)) (fun W' a ha _ => EV.var rfl) (by have := hR.len4 hm; omega)) EVA.nil) RC.tupOf) EVA.nil) (by show 1 ≤ 1000; decide)) (RV.catT (by simp; omega))) ?_ (RV.catT (by simp; omega))
    · refine EV.eq (EV.slT (EV.var rfl) EVO.none (EVO.some (EV.var rfl))) ?_
      rw [cut_to, List.map_take]
    · refine EV.eq (EV.slT (EV.var rfl) (EVO.some (i := ((p + 1 : Nat) : Int)) (EV.op (EV.var rfl) EV.cst RV.I0)) EVO.none) ?_
      rw [cut_from, List.map_drop]
theorem ok_law_with (T : Tp K mg) : FnOk P w K mg base CX0 1 T.law_with.a T.law_with.fd p_law_with (sp_law_row insR) :=
  pure_ok T.law_with.F sc_law_with (fun _ => rfl) fun cdv A outer s H E hr => by
    have nd := sc_law_with.nd
    refine ⟨_, (pss_one (ps_ret (pe_op op_catA (pe_op op_catA (pe_slice sl_tupA (pv 0) po_none (po_some (pv 1))) (pe_tup (pa_cons (pe_callTy call_tuple_of (by rfl) T.b_tuple (by decide +kernel) (pa_cons (pe_callB (cr_sortedSet rfl) (by rfl) T.b_sorted (by decide +kernel) (pa_cons (pe_callTy (cr_setI rfl) (by rfl) T.b_set (by decide +kernel) (pa_cons (pe_op op_catA (pe_ix ix_tup (pv 0) (pv 1) (fun _ _ => rfl)) (pe_tup (pa_cons (pv 2) pa_nil))) pa_nil)) pa_nil)) pa_nil)) pa_nil))) (pe_slice sl_tupA (pv 0) (po_some (pe_op op_add (pv 1) pe_int)) po_none)))), fun W i hi => ?_⟩
    obtain ⟨R, p, x⟩ := i
    obtain ⟨hR, hp⟩ := hi
    have hR : RowsOk R := hR
    have hp : p < R.length := hp
    have h4 := hR.2.1
    have hm := hR.row hp
    have hr4 := hR.len4 hm
    refine ST.ret (EV.eq (T := Ty.tup ((R.take p).map tRow ++ [tRow (insR (R.getD p []) x)] ++ (R.drop (p + 1)).map tRow)) ?_ (congrArg Ty.tup (set_cut (f := tRow) (insR (R.getD p []) x) hp)))
    refine EV.op (EV.op ?_ (EV.tup (EVA.cons (EV.cb (EVA.cons (EV.cb (EVA.cons (EV.cb (EVA.cons (EV.eq (EV.op (EV.ixT (EV.var rfl) (EV.var rfl) rfl (by rw [List.getElem?_map, getD_some (z := ([] : List Nat)) hp]; rfl)) (EV.tup (EVA.cons (EV.var rfl) EVA.nil) (by show 1 ≤ 1000; decide)) (RV.catT (by rw [List.length_map]; show _ + 1 ≤ 1000; omega))) (U := Ty.tup ((R.getD p [] ++ [x]).map tN)) (by rw [List.map_append]; rfl)) EVA.nil) (RC.setNT (by rw [List.length_append]; show _ + 1 ≤ 100; omega))) EVA.nil) (RC.sortedSetN (by rw [List.length_append]; show _ + 1 < 64; omega) (ins_asc (hR.2.2 _ hm).1) (fun k => by rw [ins_mem, List.mem_append, List.mem_singleton]; exact Or.comm))) EVA.nil) RC.tupOf) EVA.nil) (by show 1 ≤ 1000; decide)) (RV.catT (by simp; omega))) ?_ (RV.catT (by simp; omega))
    · refine EV.eq (EV.slT (EV.var rfl) EVO.none (EVO.some (EV.var rfl))) ?_
      rw [cut_to, List.map_take]
    · refine EV.eq (EV.slT (EV.var rfl) (EVO.some (i := ((p + 1 : Nat) : Int)) (EV.op (EV.var rfl) EV.cst RV.I0)) EVO.none) ?_
      rw [cut_from, List.map_drop]
abbrev sp_sound : Sp := pSp (fun i : St3 => [tRows i.1, tStand i.2.1]) (fun i => Sok i) (fun i => tBl (decide (0 < (deals i).length)))
theorem ok_law_sound (T : Tp K mg) : FnOk P w K mg base CX0 2 T.law_sound.a T.law_sound.fd p_law_sound sp_sound :=
  pure_ok T.law_sound.F sc_law_sound (fun _ => rfl) fun cdv A outer s H E hr => by
    have nd := sc_law_sound.nd
    refine ⟨_, (pss_one (ps_ret (pe_cmpR op_gt (pe_callB call_len_seq (by rfl) T.b_len PySem.boot_len (pa_cons (pe_lc (own := [("_law_told", 2)]) rfl nd (pi_list (pe_call (ok_law_all T) (hr.mono (by first | decide | omega)) rfl T.law_all.m T.law_all.F.kp T.law_all.b .nil pass0 (pa_cons (pv 0) pa_nil))) (blkOk_by (own := [("_law_told", 2)]) (N := n_law_sound) (sc := defScope s_law_sound) (by decide +kernel)) (fun _ _ _ _ _ => (pg_name (i := 2) nd rfl (Or.inl rfl))) (fun _ _ _ _ _ => (pts_one (pt_val (pe_call (ok_law_fits T) (hr.mono (by first | decide | omega)) rfl T.law_fits.m T.law_fits.F.kp T.law_fits.b .nil pass0 (pa_cons (pv 1) (pa_cons (pv 2) pa_nil)))))) (fun _ _ _ _ _ => (pv 2))) pa_nil)) pe_int (nomark _)))), fun W s ho => ?_⟩
    have ho : Sok s := ho
    have hA := AllOk.all ho.1
    have h24 := hA.few24 ho.1.2.1
    refine ST.retTo (EV.op (EV.cb (EVA.cons (EV.lc (allS s.1) tDeal (fits s.2.1) tDeal _ (EVI.list (EV.call s.1 (by walk_at "ev") ho.1)) (fun a _ => GT.name (by decide)) (fun W' d hd => EVT.B (EV.call (s.2.1, d) (by walk_at "ev") ⟨ho.l4, by rw [(hA.len d hd).1]; exact ho.2.1.symm⟩)) (fun W' d hd _ => EV.var rfl) (by omega)) EVA.nil) RC.lenL) EV.cst RV.I0) ?_
    show tBl _ = tBl _
    rw [List.length_map]
    exact congrArg _ (gt0 _)
abbrev sp_due : Sp := gSp (hS fun s (i : Nat × Nat) => Sok s.1 ∧ i.1 < s.1.1.length ∧ i.2 < s.1.1.length) (fun i => [Ty.is (.ref i.1), tN i.2.2.2.1, tN i.2.2.2.2]) (fun i => tOR (lawStrike i.2.2.1.1 i.2.2.2.1 i.2.2.2.2))
theorem ok_law_struck_due (T : Tp K mg) : FnOk P w K mg base CX0 3 T.law_struck_due.a T.law_struck_due.fd p_law_struck_due sp_due :=
  g_ok T.law_struck_due.F sc_law_struck_due (fun _ => rfl) fun cdv A outer s H E hr => by
    have nd := sc_law_struck_due.nd
    refine ⟨_, (pss_cons (ps_if (PW.pt (pw_or (pt_cmpR op_notIn_seq (pv 2) (pe_ix ix_tup (pe_ix ix_list (pv 0) pe_int (fun _ _ => rfl)) (pv 1) (fun _ _ => rfl)) rfl) (pw_or1 (pt_cmpR op_eq (pe_ix ix_tup (pe_ix ix_list (pv 0) pe_int (fun _ _ => rfl)) (pv 1) (fun _ _ => rfl)) (pv 2) (nomark _))))) (pss_one (ps_ret pe_non)) pss_nil) (pss_cons (ps_set (i := 3) nd rfl (Or.inl rfl) (pe_call (ok_law_without T) (hr.mono (by first | decide | omega)) rfl T.law_without.m T.law_without.F.kp T.law_without.b .nil pass0 (pa_cons (pe_ix ix_list (pv 0) pe_int (fun _ _ => rfl)) (pa_cons (pv 1) (pa_cons (pv 2) pa_nil))))) (pss_cons (ps_if (pt_not (pt_val (pe_call (ok_law_sound T) (hr.mono (by first | decide | omega)) rfl T.law_sound.m T.law_sound.F.kp T.law_sound.b .nil pass0 (pa_cons (pv 3) (pa_cons (pe_ix ix_list (pv 0) pe_int (fun _ _ => rfl)) pa_nil))))) (pss_one (ps_ret pe_non)) pss_nil) (pss_one (ps_ret (pv 3)))))), fun W i hi => ?_⟩
    obtain ⟨a, e, s, p, x⟩ := i
    obtain ⟨hs, ho, hp, hx⟩ := hi
    have hs : HasS a e s W := hs
    have ho : Sok s.1 := ho
    have hp : p < s.1.1.length := hp
    have hpS : p < s.1.2.1.length := by rw [ho.2.1]; exact hp
    refine ST.if_ (b := decide (x ∉ s.1.1.getD p [] ∨ s.1.2.1.getD p none = some x)) (EVT.eq (EVT.or (EVT.B (EV.op (EV.var rfl) (EV.ixT (EV.s0 hs (EV.var rfl)) (EV.var rfl) rfl (by rw [List.getElem?_map, getD_some (z := ([] : List Nat)) hp]; rfl)) RV.inTN)) fun _ => EVT.B (EV.op (EV.ixT (EV.s1 hs (EV.var rfl)) (EV.var rfl) rfl (by rw [List.getElem?_map, getD_some (z := none) hpS]; rfl)) (EV.var rfl) (RV.Eq (oV_scal _ _)))) ?_) (fun h => ?_) (fun h => ST.skip ?_)
    · show (!decide (x ∈ s.1.1.getD p []) || decide (oV (s.1.2.1.getD p none) = nV x)) = _
      rw [oV_eq, Bool.decide_or, decide_not]
    · have h := of_decide_eq_true h
      refine ST.retSeq (EV.eq EV.cst ?_)
      show _ = tOR (lawStrike s.1 p x)
      rw [lawStrike, if_pos h]; rfl
    have h := of_decide_eq_false h
    let R' := s.1.1.set p (cutR (s.1.1.getD p []) x)
    have ho' : Sok (R', s.1.2) := ⟨ho.1.cut hp, by show StOk (s.1.1.set p _).length s.1.2.1; rw [List.length_set]; exact ho.2⟩
    refine ST.asg (EV.call (s.1.1, p, x) (EVA.cons (EV.s0 hs (EV.var rfl)) (by walk_at "ev")) ⟨ho.1, hp⟩) (ST.if_ (b := !decide (0 < (deals (R', s.1.2)).length)) (EVT.not (EVT.B (EV.call (R', s.1.2) (EVA.cons (EV.var rfl) (EVA.cons (EV.s1 hs (EV.var rfl)) EVA.nil)) ho'))) (fun h2 => ?_) (fun h2 => ST.skip ?_))
    · have h2 : (deals (R', s.1.2)).length = 0 := by simp at h2; rw [h2]; rfl
      refine ST.retSeq (EV.eq EV.cst ?_)
      show _ = tOR (lawStrike s.1 p x)
      rw [lawStrike, if_neg h, if_pos h2]; rfl
    · have h2 : ¬ (deals (R', s.1.2)).length = 0 := by
        simp at h2
        omega
      refine ST.retTo (EV.var rfl) ?_
      show _ = tOR (lawStrike s.1 p x)
      rw [lawStrike, if_neg h, if_neg h2]; rfl
end
end Fo
set_option Elab.async false
set_option linter.all false
set_option maxRecDepth 100000
set_option maxHeartbeats 1000000
namespace Fo
open PySem PySem.Spec PyProof.Rows L2
local macro_rules | `(tactic| walk_at "ev") => `(tactic| first
  | ((with_reducible apply EV.var); rfl)
  | (with_reducible exact EV.cst)
  | (with_reducible exact EVA.nil)
  | (with_reducible exact EVO.none)
  | ((with_reducible apply EVO.some); (· walk_at "ev"))
  | ((with_reducible apply EVA.cons); (· walk_at "ev"); (· walk_at "ev"))
  | ((with_reducible apply EV.op); (· walk_at "ev"); (· walk_at "ev"); (· walk_at "rv"))
  | ((with_reducible apply EV.un); (· walk_at "ev"); (· exact RU.neg))
  | ((with_reducible apply EV.chain); (· walk_at "ev"); (· walk_at "ev"); (· walk_at "rv"); (· walk_at "ev"); (· walk_at "rv"))
  | ((with_reducible apply EV.cb); (· walk_at "ev"); (· walk_at "rv"))
  | ((with_reducible apply EV.bits); (· walk_at "ev"))
  | ((with_reducible apply EV.slT); (· walk_at "ev"); (· walk_at "ev"); (· walk_at "ev"))
  | ((with_reducible apply EV.isN); (· walk_at "ev"))
  | ((with_reducible apply EV.notN); (· walk_at "ev"))
  | ((with_reducible apply EV.notV); (· walk_at "ev"))
  | ((with_reducible apply EV.andV); (· walk_at "ev"); (· intro _; walk_at "ev"))
  | ((with_reducible apply EVT.test); (· walk_at "ev"))
  | ((with_reducible apply EVT.B); (· walk_at "ev"))
  | ((with_reducible apply EVT.not); (· walk_at "ev"))
  | ((with_reducible apply EV.tup); (· walk_at "ev"); (· decide))
  | ((with_reducible apply EV.lst); (· walk_at "ev"); (· decide))
  | ((with_reducible apply EVI.list); (· walk_at "ev"))
  | ((with_reducible apply EVI.tup); (· walk_at "ev"))
  | ((with_reducible apply EVI.enum); (· walk_at "ev"))
  | ((with_reducible apply EVI.enumT); (· walk_at "ev"))
  | ((with_reducible apply EVI.zipT); (· walk_at "ev"); (· walk_at "ev")))
local macro_rules | `(tactic| walk_at "rv") => `(tactic| first
  | exact RV.I0
  | exact RV.oneShl (by decide)
  | exact RV.shrN
  | exact RV.odd
  | exact RC.isi_ii
  | exact RC.isi_ib
  | exact RC.isi_tt
  | exact RC.isi_ss
  | exact RC.lenT
  | exact RC.lenL
  | exact RC.sumF
  | exact RC.allF
  | exact RV.inTN
  | exact RV.inLN
  | exact RV.inTO
  | exact RC.tupOf
  | exact RC.lstOfT
  | exact RC.lstOfL
  | exact RC.int
  | exact RC.intB
  | exact RC.abs
  | exact RV.Eq rfl
  | exact RV.Ne rfl)
/-! ## the law's state goes on, goes back -/
section
variable {P : Program} {w : World} {K : PySem.W.Frag} {mg : Str → Option Value} {base : Heap}
abbrev LensS (a e : Addr) (F : DSt → Wd) : Prop := Lens F [a, e] (StAt a e)
theorem run_set {F : DSt → Wd} {G : Ctx} {a e : Addr} {s s' : DSt} {T : Ty} {tv : TE} {j i : Nat} {σ : L2.St} {H : Hp} {D : Ends} (L : LensS a e F) (ha : G[j]? = some (some (Ty.is (.ref a)))) (hv : EV (F s) G tv T) (hi : i < 3) (ok : (F s).ok H) (fr : Fr ((F s).v H) G σ)
    (hs : ∀ h v0 v1 v2 z, (tRows s.1.1).p h v0 → (tStand s.1.2.1).p h v1 → (tHist s.1.2.2).p h v2 → T.p h z → ∃ w0 w1 w2, [v0, v1, v2, V.ref e].set i z = [w0, w1, w2, V.ref e] ∧ (tRows s'.1.1).p h w0 ∧ (tStand s'.1.2.1).p h w1 ∧ (tHist s'.1.2.2).p h w2) (h2 : s'.2 = s.2)
    (k : ∀ H', (F s').ok H' → Xt ((F s).v H) ((F s').v H') → Fr ((F s').v H') G σ → D.nx σ H') : tAsg tv (gSub (tVar j) (tC (.int (i : Int))) rSetL) D σ H :=
  hv.run ok fr fun z H1 s1 pz => (EV.var (W := F s) ha).run s1.2 (fr.mo s1.1) fun o H2 s2 po => by
    cases po
    obtain ⟨hne, v0, v1, v2, ev, e1, p0, p1, p2, e2, al⟩ := L.at s2.2
    obtain ⟨w0, w1, w2, ew, q0, q1, q2⟩ := hs _ v0 v1 v2 z p0 p1 p2 (T.mo s2.1 pz)
    refine ⟨a, _, (i : Int), i, rfl, rfl, e1, ?_, ?_⟩
    · unfold ixN
      rw [if_pos (by omega), if_pos (by show (i : Int) < 4; omega), Int.toNat_natCast]
    · rw [ew]
      obtain ⟨ok3, v3⟩ := L.write (s := s) (s' := s') (H := H2) (H' := upd H2 a (.lst [w0, w1, w2, .ref e])) s2.2 (fun x hx => upd_ne fun z => hx (by rw [z]; simp)) ⟨hne, w0, w1, w2, ev, upd_same, q0, q1, q2, by rw [upd_ne hne.symm]; exact e2, by rw [h2]; exact al⟩
      refine k _ ok3 ?_ ?_
      · rw [v3]; exact (s1.trans s2).1
      · rw [v3]; exact fr.mo (s1.trans s2).1
abbrev aS {α : Type} (i : Addr × Addr × α) : List Addr := [i.1, i.2.1]
abbrev cS {α : Type} (i : Addr × Addr × α) : DSt → Hp → Hp → Prop := StAt i.1 i.2.1
abbrev sp_go_on : Sp := mSp (S := DSt) (aS (α := St3)) cS (fun i => [Ty.is (.ref i.1), tRows i.2.2.1, tStand i.2.2.2.1, tHist i.2.2.2.2]) (fun _ s => s.2.length ≤ 900) (fun i s => (i.2.2, s.2 ++ [s.1])) (fun _ _ => tNon)
theorem ok_law_go_on (T : Tp K mg) : FnOk P w K mg base CX0 1 T.law_go_on.a T.law_go_on.fd p_law_go_on sp_go_on :=
  m_ok T.law_go_on.F sc_law_go_on (fun _ => rfl) fun cdv A outer s H E hr => by
    have nd := sc_law_go_on.nd
    refine ⟨_, (pss_cons (ps_expr (pe_bm PySem.F.plainAttrs_list PySem.F.slot_list_append PySem.F.type_list_append mt_append (pe_ix ix_list (pv 0) pe_int (fun _ _ => rfl)) (pa_cons (pe_tup (pa_cons (pe_ix ix_list (pv 0) pe_int (fun _ _ => rfl)) (pa_cons (pe_ix ix_list (pv 0) pe_int (fun _ _ => rfl)) (pa_cons (pe_ix ix_list (pv 0) pe_int (fun _ _ => rfl)) pa_nil)))) pa_nil))) (pss_cons (ps_asg (pv 1) (pg_sub (pv 0) pe_int set_list)) (pss_cons (ps_asg (pv 2) (pg_sub (pv 0) pe_int set_list)) (pss_one (ps_asg (pv 3) (pg_sub (pv 0) pe_int set_list)))))), fun i F s σ H Q hi L ok fr kq => ?_⟩
    obtain ⟨a, e, st⟩ := i
    have hi : s.2.length ≤ 900 := hi
    have L : LensS a e F := L
    have hs : HasS a e s (F s) := L.has
    refine run_seq (run_dropQ (run_bm (EV.s3 hs (EV.var (i := 0) rfl)) ok fr fun H1 s1 fr1 => ?_))
    obtain ⟨hne, u0, u1, u2, uv, c1, c2, c3, c4, c5, c6⟩ := L.at s1.2
    refine ⟨.inl ⟨rfl, _, SqL.of c5⟩, run_args (EVA.cons (EV.tup (EVA.cons (EV.s0 hs (EV.var (i := 0) rfl)) (EVA.cons (EV.s1 hs (EV.var (i := 0) rfl)) (EVA.cons (EV.s2 hs (EV.var (i := 0) rfl)) EVA.nil))) (by show 3 ≤ 1000; decide)) EVA.nil) s1.2 fr1 fun nvs H2 s2 p2 fr2 => ?_⟩
    obtain ⟨nv, rfl, p2⟩ := al1 p2
    obtain ⟨_, v0, v1, v2, ev, e1, p0, p1, pp2, e2, al⟩ := L.at s2.2
    have hl : ev.length = s.2.length := by rw [← al.len, List.length_map]
    refine ⟨e, ev, nv, rfl, rfl, e2, szlt (by omega), ?_⟩
    obtain ⟨ok3, v3⟩ := L.write (s := s) (s' := (s.1, s.2 ++ [s.1])) (H := H2) (H' := upd H2 e (.lst (ev ++ [nv]))) s2.2 (fun x hx => upd_ne fun z => hx (by rw [z]; simp)) ⟨hne, v0, v1, v2, ev ++ [nv], by rw [upd_ne hne]; exact e1, p0, p1, pp2, upd_same, by rw [List.map_append]; exact al.app p2⟩
    have fr3 := fr2
    rw [← v3] at fr3
    dsimp only
    refine run_seq (run_set (i := 0) (s' := ((st.1, s.1.2), s.2 ++ [s.1])) L (j := 0) rfl (EV.var (i := 1) rfl) (by decide) ok3 fr3 (fun h v0 v1 v2 z a1 a2 a3 a4 => ⟨z, v1, v2, rfl, a4, a2, a3⟩) rfl fun H4 ok4 x4 fr4 => ?_)
    dsimp only
    refine run_seq (run_set (i := 1) (s' := ((st.1, st.2.1, s.1.2.2), s.2 ++ [s.1])) L (j := 0) rfl (EV.var (i := 2) rfl) (by decide) ok4 fr4 (fun h v0 v1 v2 z a1 a2 a3 a4 => ⟨v0, z, v2, rfl, a1, a4, a3⟩) rfl fun H5 ok5 x5 fr5 => ?_)
    dsimp only
    refine run_set (i := 2) (s' := (st, s.2 ++ [s.1])) L (j := 0) rfl (EV.var (i := 3) rfl) (by decide) ok5 fr5 (fun h v0 v1 v2 z a1 a2 a3 a4 => ⟨v0, v1, z, rfl, a1, a2, a4⟩) rfl fun H6 ok6 x6 fr6 => ?_
    refine kq .non H6 ok6 ?_ rfl
    refine Xt.trans ?_ ((x4.trans x5).trans x6)
    rw [v3]
    exact (s1.trans s2).1
abbrev sp_go_back : Sp := mSp (S := DSt) (aS (α := Unit)) cS (fun i => [Ty.is (.ref i.1)]) (fun _ s => s.2 ≠ []) (fun i s => (lastOr s, s.2.dropLast)) (fun _ _ => tNon)
theorem ok_law_go_back (T : Tp K mg) : FnOk P w K mg base CX0 1 T.law_go_back.a T.law_go_back.fd p_law_go_back sp_go_back :=
  m_ok T.law_go_back.F sc_law_go_back (fun _ => rfl) fun cdv A outer s H E hr => by
    have nd := sc_law_go_back.nd
    refine ⟨_, (pss_cons (ps_set (i := 1) nd rfl (Or.inl rfl) (pe_bm0 PySem.F.plainAttrs_list PySem.F.slot_list_pop PySem.F.type_list_pop mt_pop (pe_ix ix_list (pv 0) pe_int (fun _ _ => rfl)))) (pss_cons (ps_asg (pe_ix ix_tup (pv 1) pe_int (fun _ _ => rfl)) (pg_sub (pv 0) pe_int set_list)) (pss_cons (ps_asg (pe_ix ix_tup (pv 1) pe_int (fun _ _ => rfl)) (pg_sub (pv 0) pe_int set_list)) (pss_one (ps_asg (pe_ix ix_tup (pv 1) pe_int (fun _ _ => rfl)) (pg_sub (pv 0) pe_int set_list)))))), fun i F s σ H Q hi L ok fr kq => ?_⟩
    obtain ⟨a, e, u⟩ := i
    have hi : s.2 ≠ [] := hi
    have hlen : 0 < s.2.length := List.length_pos_iff.mpr hi
    have L : LensS a e F := L
    refine run_asgQ (run_bm0 (EV.s3 L.has (EV.var (i := 0) rfl)) ok fr fun H2 s2 fr2 => ?_)
    obtain ⟨hne, v0, v1, v2, ev, e1, p0, p1, p2, e2, al⟩ := L.at s2.2
    have hl : ev.length = s.2.length := by rw [← al.len, List.length_map]
    have hlast : s.2[s.2.length - 1]? = some (lastOr s) := by
      unfold lastOr
      rw [List.getLast?_eq_getElem?, List.getElem?_eq_getElem (by omega)]
      rfl
    obtain ⟨z, hz, pz⟩ := al.get (i := s.2.length - 1) (t := tTripL (lastOr s)) (by rw [List.getElem?_map, hlast]; rfl)
    refine ⟨.inl ⟨rfl, _, SqL.of e2⟩, e, ev, z, rfl, rfl, e2, by rw [hl]; exact hz, ?_⟩
    have ed : ev.dropLast = ev.take (s.2.length - 1) := by rw [List.dropLast_eq_take, hl]
    have ed2 : s.2.dropLast = s.2.take (s.2.length - 1) := List.dropLast_eq_take
    obtain ⟨ok3, v3⟩ := L.write (s := s) (s' := (s.1, s.2.dropLast)) (H := H2) (H' := upd H2 e (.lst ev.dropLast)) s2.2 (fun x hx => upd_ne fun z => hx (by rw [z]; simp)) ⟨hne, v0, v1, v2, ev.dropLast, by rw [upd_ne hne]; exact e1, p0, p1, p2, upd_same, by rw [ed, ed2, List.map_take]; exact al.take _⟩
    have fr3 := fr2.set pz 1
    rw [← v3] at fr3
    let t := lastOr s
    have el : ∀ {W : Wd} {G : Ctx}, G[1]? = some (some (tTripL t)) → EV W G (tVar 1) (tTripL t) := fun h => EV.var h
    refine run_seq (run_set (i := 0) (s' := ((t.1, s.1.2), s.2.dropLast)) L (j := 0) rfl (EV.ixT (j := 0) (el rfl) EV.cst rfl rfl) (by decide) ok3 fr3 (fun h v0 v1 v2 z a1 a2 a3 a4 => ⟨z, v1, v2, rfl, a4, a2, a3⟩) rfl fun H4 ok4 x4 fr4 => ?_)
    dsimp only
    refine run_seq (run_set (i := 1) (s' := ((t.1, t.2.1, s.1.2.2), s.2.dropLast)) L (j := 0) rfl (EV.ixT (j := 1) (el rfl) EV.cst rfl rfl) (by decide) ok4 fr4 (fun h v0 v1 v2 z a1 a2 a3 a4 => ⟨v0, z, v2, rfl, a1, a4, a3⟩) rfl fun H5 ok5 x5 fr5 => ?_)
    dsimp only
    refine run_set (i := 2) (s' := (t, s.2.dropLast)) L (j := 0) rfl (EV.ixT (j := 2) (el rfl) EV.cst rfl rfl) (by decide) ok5 fr5 (fun h v0 v1 v2 z a1 a2 a3 a4 => ⟨v0, v1, z, rfl, a1, a2, a4⟩) rfl fun H6 ok6 x6 fr6 => ?_
    refine kq .non H6 ok6 ?_ rfl
    refine Xt.trans ?_ ((x4.trans x5).trans x6)
    rw [v3]
    exact s2.1
abbrev sp_draws : Sp := mSp (S := DSt) (aS (α := (Bool × Nat) × Nat)) cS (fun i => [Ty.is (.ref i.1), tComer i.2.2.1, tN i.2.2.2]) (fun i s => Sok s.1 ∧ (pairOf i.2.2.1 i.2.2.2).1 < s.1.1.length ∧ s.2.length ≤ 900 ∧ s.1.2.2.length ≤ 900) (fun i s => (drawS s.1 i.2.2.1 i.2.2.2, s.2 ++ [s.1])) (fun _ _ => tNon)
theorem ok_law_draws (T : Tp K mg) : FnOk P w K mg base CX0 2 T.law_draws.a T.law_draws.fd p_law_draws sp_draws :=
  m_ok T.law_draws.F sc_law_draws (fun _ => rfl) fun cdv A outer s H E hr => by
    have nd := sc_law_draws.nd
    refine ⟨_, (pss_cons (ps_asg (pe_ix ix_list (pe_lst (pa_cons (pe_tup (pa_cons (pe_ix ix_tup (pv 1) pe_int (fun _ _ => rfl)) (pa_cons (pv 2) pa_nil))) (pa_cons (pe_tup (pa_cons (pv 2) (pa_cons (pe_ix ix_tup (pv 1) pe_int (fun _ _ => rfl)) pa_nil))) pa_nil))) (pe_callTy call_int1 (by rfl) T.b_int (by decide +kernel) (pa_cons (pe_cmpR op_eq (pe_ix ix_tup (pv 1) pe_int (fun _ _ => rfl)) pe_str (nomark _)) pa_nil)) (fun _ _ => rfl)) (pg_tup (by rfl) (pgs_cons (pg_name (i := 3) nd rfl (Or.inl rfl)) (pgs_cons (pg_name (i := 4) nd rfl (Or.inl rfl)) pgs_nil)))) (pss_one (ps_expr (pe_call (ok_law_go_on T) (hr.mono (by first | decide | omega)) rfl T.law_go_on.m T.law_go_on.F.kp T.law_go_on.b .nil pass0 (pa_cons (pv 0) (pa_cons (pe_ix ix_list (pv 0) pe_int (fun _ _ => rfl)) (pa_cons (pe_call (ok_law_drawn T) (hr.mono (by first | decide | omega)) rfl T.law_drawn.m T.law_drawn.F.kp T.law_drawn.b .nil pass0 (pa_cons (pe_ix ix_list (pv 0) pe_int (fun _ _ => rfl)) (pa_cons (pv 3) (pa_cons (pv 4) pa_nil)))) (pa_cons (pe_op op_catA (pe_ix ix_list (pv 0) pe_int (fun _ _ => rfl)) (pe_tup (pa_cons (pe_tup (pa_cons (pv 3) (pa_cons (pv 4) pa_nil))) pa_nil))) pa_nil)))))))), fun i F s σ H Q hi L ok fr kq => ?_⟩
    obtain ⟨a, e, ⟨b, n⟩, k⟩ := i
    obtain ⟨hs, hp, h9, hh⟩ := hi
    have hs : Sok s.1 := hs
    have h9 : s.2.length ≤ 900 := h9
    have hh : s.1.2.2.length ≤ 900 := hh
    have hp : (pairOf (b, n) k).1 < s.1.1.length := hp
    have L : LensS a e F := L
    have hS : HasS a e s (F s) := L.has
    refine run_asg2 (T1 := tN (pairOf (b, n) k).1) (T2 := tN (pairOf (b, n) k).2) (EV.ixL (j := if b then 0 else 1) (EV.lst (EVA.cons (EV.tup (EVA.cons (EV.num (c := (b, n)) rfl) (EVA.cons (EV.var rfl) EVA.nil)) (by show 2 ≤ 1000; decide)) (EVA.cons (EV.tup (EVA.cons (EV.var rfl) (EVA.cons (EV.num (c := (b, n)) rfl) EVA.nil)) (by show 2 ≤ 1000; decide)) EVA.nil)) (by show 2 ≤ 1000; decide)) (EV.cb (EVA.cons (EV.eq (EV.op (EV.who (c := (b, n)) rfl) EV.cst (RV.Eq rfl)) (congrArg tBl (whoT b))) EVA.nil) RC.intB) (by cases b <;> rfl) (by cases b <;> rfl)) ok fr fun σ1 H1 s1 fr1 => ?_
    refine run_dropQ (run_callM (a, e, drawS s.1 (b, n) k) L h9 s1.2 fr1 (ts := [Ty.is (.ref a), tRows s.1.1, tStand (s.1.2.1.set (pairOf (b, n) k).1 (some (pairOf (b, n) k).2)), tHist (s.1.2.2 ++ [pairOf (b, n) k])]) (EVA.cons (EV.var rfl) (EVA.cons (EV.s0 hS (EV.var rfl)) (EVA.cons (EV.call (s.1.2.1, (pairOf (b, n) k).1, (pairOf (b, n) k).2) (EVA.cons (EV.s1 hS (EV.var rfl)) (by walk_at "ev")) ⟨hs.l4, by rw [hs.2.1]; exact hp⟩) (EVA.cons (EV.eq (EV.op (EV.s2 hS (EV.var rfl)) (EV.tup (EVA.cons (EV.tup (EVA.cons (EV.var rfl) (EVA.cons (EV.var rfl) EVA.nil)) (by show 2 ≤ 1000; decide)) EVA.nil) (by show 1 ≤ 1000; decide)) (RV.catT ?_)) ?_) EVA.nil)))) fun v H' o x r => kq .non H' o (s1.1.trans x) rfl)
    · rw [List.length_map]; show s.1.2.2.length + 1 ≤ 1000; omega
    · show Ty.tup _ = Ty.tup _
      rw [List.map_append]; rfl
end
end Fo
set_option Elab.async false
set_option linter.all false
set_option maxRecDepth 100000
set_option maxHeartbeats 1000000
namespace Fo
open PySem PySem.Spec PyProof.Rows L2
local macro_rules | `(tactic| walk_at "ev") => `(tactic| first
  | ((with_reducible apply EV.var); rfl)
  | (with_reducible exact EV.cst)
  | (with_reducible exact EVA.nil)
  | (with_reducible exact EVO.none)
  | ((with_reducible apply EVO.some); (· walk_at "ev"))
  | ((with_reducible apply EVA.cons); (· walk_at "ev"); (· walk_at "ev"))
  | ((with_reducible apply EV.op); (· walk_at "ev"); (· walk_at "ev"); (· walk_at "rv"))
  | ((with_reducible apply EV.un); (· walk_at "ev"); (· exact RU.neg))
  | ((with_reducible apply EV.chain); (· walk_at "ev"); (· walk_at "ev"); (· walk_at "rv"); (· walk_at "ev"); (· walk_at "rv"))
  | ((with_reducible apply EV.cb); (· walk_at "ev"); (· walk_at "rv"))
  | ((with_reducible apply EV.bits); (· walk_at "ev"))
  | ((with_reducible apply EV.slT); (· walk_at "ev"); (· walk_at "ev"); (· walk_at "ev"))
  | ((with_reducible apply EV.isN); (· walk_at "ev"))
  | ((with_reducible apply EV.notN); (· walk_at "ev"))
  | ((with_reducible apply EV.notV); (· walk_at "ev"))
  | ((with_reducible apply EV.andV); (· walk_at "ev"); (· intro _; walk_at "ev"))
  | ((with_reducible apply EVT.test); (· walk_at "ev"))
  | ((with_reducible apply EVT.B); (· walk_at "ev"))
  | ((with_reducible apply EVT.not); (· walk_at "ev"))
  | ((with_reducible apply EV.tup); (· walk_at "ev"); (· decide))
  | ((with_reducible apply EV.lst); (· walk_at "ev"); (· decide))
  | ((with_reducible apply EVI.list); (· walk_at "ev"))
  | ((with_reducible apply EVI.tup); (· walk_at "ev"))
  | ((with_reducible apply EVI.enum); (· walk_at "ev"))
  | ((with_reducible apply EVI.enumT); (· walk_at "ev"))
  | ((with_reducible apply EVI.zipT); (· walk_at "ev"); (· walk_at "ev")))
local macro_rules | `(tactic| walk_at "rv") => `(tactic| first
  | exact RV.I0
  | exact RV.oneShl (by decide)
  | exact RV.shrN
  | exact RV.odd
  | exact RC.isi_ii
  | exact RC.isi_ib
  | exact RC.isi_tt
  | exact RC.isi_ss
  | exact RC.lenT
  | exact RC.lenL
  | exact RC.sumF
  | exact RC.allF
  | exact RV.inTN
  | exact RV.inLN
  | exact RV.inTO
  | exact RC.tupOf
  | exact RC.lstOfT
  | exact RC.lstOfL
  | exact RC.int
  | exact RC.intB
  | exact RC.abs
  | exact RV.Eq rfl
  | exact RV.Ne rfl)
/-! ## what a strike, an allowing, says -/
section
variable {P : Program} {w : World} {K : PySem.W.Frag} {mg : Str → Option Value} {base : Heap}
theorem run_methS {W : Wd} {G : Ctx} {sp : Sp} {C a : Addr} {m : Str} {E : L2.St → XK} {to : TE} {ta : TA} {ts : List Ty} {σ : L2.St} {H : Hp} {Q : VK} (ok : W.ok H) (fr : Fr (W.v H) G σ) (ho : EV W G to (Ty.is (.ref a))) (hI : ∀ H, W.ok H → ∃ dx fs, H a = some (.ins C dx fs) ∧ fs.lookup m = none)
    (h : EVA W G ta ts) (k : ∀ vs H', W.st H H' → Al (W.v H') ts vs → sp (.ref a :: vs) H' Q (E σ)) : tMethS C m sp E to ta σ H Q :=
  ho.run ok fr fun v H0 s0 p0 => by
    cases p0
    obtain ⟨dx, fs, ha, hl⟩ := hI _ s0.2
    refine ⟨a, dx, fs, rfl, ha, hl, ?_⟩
    exact h.run s0.2 (fr.mo s0.1) fun vs H1 s1 p1 => k vs H1 (s0.trans s1) p1
theorem run_ifNotN {te : TE} {t u : TS} {σ : L2.St} {H : Hp} {D : Ends} (k : te σ H fun v H1 => ∃ b, V.bl (!decide (v = V.non)) = V.bl b ∧ (if b = true then t D σ H1 else u D σ H1)) : tIfS (tB (tNotN te)) t u D σ H := k
def tdSp {ι S : Type} (A : ι → List Addr) (C : ι → S → Hp → Hp → Prop) (args : ι → List Ty) (ok : ι → S → Prop) (nxt : ι → S → Option S) : Sp := fun vs H Q E => ∃ (i : ι) (F : S → Wd) (s : S), ok i s ∧ Lens F (A i) (C i) ∧ (F s).ok H ∧ Al ((F s).v H) (args i) vs ∧
  (∀ s', nxt i s = some s' → ∀ H', (F s').ok H' → Xt ((F s).v H) ((F s').v H') → Q (.str "let") H') ∧ (nxt i s = none → ∀ H', (F s).st H H' → Q (.str "not open") H')
abbrev sp_told (T : Tp K mg) (f : St3 → Nat → Nat → Option St3) : Sp := tdSp (S := DSt) (aD (α := Nat × Nat)) (cD T) (fun i => [Ty.is (.ref i.1), tN i.2.2.1, tN i.2.2.2]) (fun i s => Sok s.1 ∧ i.2.2.1 < s.1.1.length ∧ i.2.2.2 < s.1.1.length ∧ s.2.length ≤ 900) (fun i s => (f s.1 i.2.2.1 i.2.2.2).map fun t => (t, s.2 ++ [s.1]))
theorem ok_law_told_strike (T : Tp K mg) : FnOk P w K mg base CX0 11 T.law_told_strike.a T.law_told_strike.fd p_law_told_strike (sp_told T strikeR) := by
  refine T.law_told_strike.F.ok sc_law_told_strike (fun vs H Q E h => ?_) (fun cdv A outer s H vs Q E hr h => ?_)
  · obtain ⟨i, F, s, _, _, _, al, _⟩ := h
    rw [← al.len]; rfl
  obtain ⟨i, F, s, hi, L, ok, al, kq, ke⟩ := h
  have nd := sc_law_told_strike.nd
  refine ⟨_, (pss_cons (ps_set (i := 3) nd rfl (Or.inl rfl) pe_str) (pss_cons (ps_try_only rfl rfl ⟨rfl, by decide, Or.inl T.mNO⟩ takes0 (fun W pn xe tk _ => (pss_one (ps_if (pt_cmp (pc_notN (pe_methS (pv 0) T.Draw.cl T.Draw_strike.mt (ok_Draw_strike T) (hr.mono (by first | decide | omega)) T.Draw_strike.b (fun σ => passAt tk σ) (pa_cons (pv 1) (pa_cons (pv 2) pa_nil))))) (pss_one (ps_set (i := 3) nd rfl (Or.inl rfl) pe_str)) pss_nil))) (fun a oe cls d pn _ _ => (pss_one (ps_set (i := 3) nd rfl (Or.inl rfl) pe_str)))) (pss_one (ps_ret (pv 3))))), ?_⟩
  have e : vs.length = p_law_told_strike.length := by rw [← al.len]; rfl
  have fr : Fr ((F s).v H) [some (Ty.is (.ref i.1)), some (tN i.2.2.1), some (tN i.2.2.2), none] (L2.start n_law_told_strike vs) := by
    unfold L2.start
    rw [e]
    exact Fr.start (n := 1) al
  have hd : HasD T i.1 i.2.1 s (F s) := L.has
  refine run_asg (EV.cst) ok fr fun v1 H1 s1 p1 fr1 => ?_
  cases p1
  obtain ⟨x0, e0, q0⟩ := fr1.get (i := 3) (T := Ty.is (.str "let")) rfl
  cases q0
  refine run_seq (run_ifNotN (run_methS s1.2 fr1 (EV.var (i := 0) rfl) (hd.ins (by decide +kernel)) (EVA.cons (EV.var (i := 1) rfl) (EVA.cons (EV.var (i := 2) rfl) EVA.nil)) fun ws H3 s3 p3 => ?_))
  have s13 := s1.trans s3
  refine ⟨i, F, s, hi, L, s3.2, ⟨rfl, p3⟩, fun s' hs' H4 ok4 x4 => ⟨false, rfl, ?_⟩, fun hn H4 s4 => ?_⟩
  · exact ⟨.str "let", e0, kq s' hs' H4 ok4 (s13.1.trans x4)⟩
  · refine ⟨true, T.eNO, fun _ a ha => ?_, fun q => Bool.noConfusion q⟩
    refine ⟨.str "not open", ?_, ke hn H4 (s13.trans s4)⟩
    rw [List.getElem?_set_self (by rw [List.length_set, L2.start]; simp [e])]
theorem ok_law_told_allow (T : Tp K mg) : FnOk P w K mg base CX0 11 T.law_told_allow.a T.law_told_allow.fd p_law_told_allow (sp_told T allowR) := by
  refine T.law_told_allow.F.ok sc_law_told_allow (fun vs H Q E h => ?_) (fun cdv A outer s H vs Q E hr h => ?_)
  · obtain ⟨i, F, s, _, _, _, al, _⟩ := h
    rw [← al.len]; rfl
  obtain ⟨i, F, s, hi, L, ok, al, kq, ke⟩ := h
  have nd := sc_law_told_allow.nd
  refine ⟨_, (pss_cons (ps_set (i := 3) nd rfl (Or.inl rfl) pe_str) (pss_cons (ps_try_only rfl rfl ⟨rfl, by decide, Or.inl T.mNO⟩ takes0 (fun W pn xe tk _ => (pss_one (ps_if (pt_cmp (pc_notN (pe_methS (pv 0) T.Draw.cl T.Draw_allow.mt (ok_Draw_allow T) (hr.mono (by first | decide | omega)) T.Draw_allow.b (fun σ => passAt tk σ) (pa_cons (pv 1) (pa_cons (pv 2) pa_nil))))) (pss_one (ps_set (i := 3) nd rfl (Or.inl rfl) pe_str)) pss_nil))) (fun a oe cls d pn _ _ => (pss_one (ps_set (i := 3) nd rfl (Or.inl rfl) pe_str)))) (pss_one (ps_ret (pv 3))))), ?_⟩
  have e : vs.length = p_law_told_allow.length := by rw [← al.len]; rfl
  have fr : Fr ((F s).v H) [some (Ty.is (.ref i.1)), some (tN i.2.2.1), some (tN i.2.2.2), none] (L2.start n_law_told_allow vs) := by
    unfold L2.start
    rw [e]
    exact Fr.start (n := 1) al
  have hd : HasD T i.1 i.2.1 s (F s) := L.has
  refine run_asg (EV.cst) ok fr fun v1 H1 s1 p1 fr1 => ?_
  cases p1
  obtain ⟨x0, e0, q0⟩ := fr1.get (i := 3) (T := Ty.is (.str "let")) rfl
  cases q0
  refine run_seq (run_ifNotN (run_methS s1.2 fr1 (EV.var (i := 0) rfl) (hd.ins (by decide +kernel)) (EVA.cons (EV.var (i := 1) rfl) (EVA.cons (EV.var (i := 2) rfl) EVA.nil)) fun ws H3 s3 p3 => ?_))
  have s13 := s1.trans s3
  refine ⟨i, F, s, hi, L, s3.2, ⟨rfl, p3⟩, fun s' hs' H4 ok4 x4 => ⟨false, rfl, ?_⟩, fun hn H4 s4 => ?_⟩
  · exact ⟨.str "let", e0, kq s' hs' H4 ok4 (s13.1.trans x4)⟩
  · refine ⟨true, T.eNO, fun _ a ha => ?_, fun q => Bool.noConfusion q⟩
    refine ⟨.str "not open", ?_, ke hn H4 (s13.trans s4)⟩
    rw [List.getElem?_set_self (by rw [List.length_set, L2.start]; simp [e])]
end
end Fo
set_option Elab.async false
set_option linter.all false
set_option maxRecDepth 100000
/-! Unknown ints; the script; the pool. -/
namespace Fo
open PySem PySem.Spec PyProof.Rows L2
def Ty.exP {β : Type} (p : β → Prop) (f : β → Ty) : Ty := ⟨fun H v => ∃ b, p b ∧ (f b).p H v, fun x ⟨b, h, q⟩ => ⟨b, h, (f b).mo x q⟩⟩
abbrev tAI : Ty := Ty.ex tInt
section
variable {K : PySem.W.Frag} {W : Wd} {G : Ctx} {te ta tb : TE} {T U S : Ty} {tlo thi : TO}
theorem RV.exL {α : Type} {f : α → Ty} {r : R2} (h : ∀ a, RV W r (f a) U S) : RV W r (Ty.ex f) U S := ⟨fun ok ⟨a, px⟩ py k => (h a).run ok px py k⟩
theorem RV.exR {α : Type} {f : α → Ty} {r : R2} (h : ∀ a, RV W r T (f a) S) : RV W r T (Ty.ex f) S := ⟨fun ok px ⟨a, py⟩ k => (h a).run ok px py k⟩
theorem RV.to {r : R2} {S' : Ty} (h : RV W r T U S) (e : ∀ H v, S.p H v → S'.p H v) : RV W r T U S' := ⟨fun ok px py k => h.run ok px py fun v H' s p => k v H' s (e _ v p)⟩
theorem ai {i : Int} (H : Hp) (v : V) : (tInt i).p H v → tAI.p H v := fun p => ⟨i, p⟩
theorem RV.ai0 {g : Int → Int → Int} : RV W (rI0 fun i j => .int (g i j)) tAI tAI tAI := RV.exL fun _ => RV.exR fun _ => RV.I0.to fun H v p => ⟨_, p⟩
theorem RV.aiC {C : Int → Int → Prop} {g : Int → Int → Int} {j : Int} (hc : ∀ i, C i j) : RV W (rI C fun i j => .int (g i j)) tAI (tInt j) tAI := RV.exL fun i => (RV.I (hc i)).to fun H v p => ⟨_, p⟩
theorem EV.ai {i : Int} (h : EV W G te (tInt i)) : EV W G te tAI := h.to fun H v p => Fo.ai H v p
theorem RC.intA : RC W (fun xs H Q => (∃ i, xs = [.int i] ∧ Q (.int i) H) ∨ ∃ k, xs = [.bl k] ∧ Q (.int (if k then 1 else 0)) H) [tAI] tAI := ⟨fun {vs H Q} ok al k => by
  obtain ⟨v, rfl, i, e⟩ := al1 al
  cases e
  exact .inl ⟨i, rfl, k _ _ ok.st ⟨i, rfl⟩⟩⟩
/-- a list of ints that is given -/
def Ty.ints (K : PySem.W.Frag) (ns : List Int) : Ty := ⟨fun H v => ∃ a, v = .ref a ∧ SqL K H a (ns.map V.int), fun x ⟨a, e, h⟩ => ⟨a, e, h.imp (fun h => x.rd notT_l h) id⟩⟩
theorem sqL_vis {M : List Addr} {H : Hp} {a : Addr} {xs : List V} (h : SqL K (vis M H) a xs) : SqL K H a xs := h.imp rd_vis id
theorem RC.lenI {ns : List Int} : RC W (rLenS K) [Ty.ints K ns] (tN ns.length) := ⟨fun {vs H Q} ok al0 k => by
  obtain ⟨v, rfl, a, e0, h⟩ := al1 al0
  subst e0
  exact ⟨a, _, rfl, .inl (sqL_vis h), k _ _ ok.st (by rw [List.length_map]; rfl)⟩⟩
theorem EV.slI {ns : List Int} {lo hi : Option Int} (ha : EV W G ta (Ty.ints K ns)) (h1 : EVO W G tlo lo) (h2 : EVO W G thi hi) : EV W G (tSl (rSlL K) ta tlo thi) (lstF ((cutT ns lo hi).map V.int)) := ⟨fun ok fr k =>
  ha.run ok fr fun x H1 s1 p1 => h1.run s1.2 (fr.mo s1.1) fun H2 s2 => h2.run s2.2 (fr.mo (s1.trans s2).1) fun H3 s3 => by
    obtain ⟨a, rfl, h⟩ := (Ty.ints K ns).mo (s2.trans s3).1 p1
    have s := (s1.trans s2).trans s3
    refine ⟨a, _, rfl, sqL_vis h, fun p hp => ?_⟩
    have e : cutV (ns.map V.int) lo hi = (cutT ns lo hi).map V.int := by
      unfold cutV cutT
      rw [List.length_map, List.map_take, List.map_drop]
    rw [e]
    refine k _ _ (s.trans (s3.2.new hp)) ⟨p, _, rfl, ?_, is_al⟩
    rw [s3.2.v_new hp, upd_same]⟩
end
/-! ### the pool -/
def PlAt (p c : Addr) (h H : Hp) : Prop := p ≠ c ∧ ∃ (i j : Int) (ns : List Int), H p = some (.lst [.int i, .int j, .ref c]) ∧ H c = some (.lst (ns.map V.int))
theorem PlAt.cl {p c : Addr} : Cl [p, c] (PlAt p c) where
  al := fun {h H x} ⟨_, i, j, ns, e1, e2⟩ hx => by
    rcases List.mem_cons.mp hx with e | hx
    · rw [e]; exact ⟨_, e1⟩
    · rw [List.mem_singleton.mp hx]; exact ⟨_, e2⟩
  mo := fun {h h' H H'} ⟨hne, i, j, ns, e1, e2⟩ x k => ⟨hne, i, j, ns, by rw [k p (by simp)]; exact e1, by rw [k c (by simp)]; exact e2⟩
abbrev LensP (p c : Addr) (W : Wd) : Prop := Lens (fun _ : Unit => W) [p, c] (fun _ => PlAt p c)
end Fo
namespace Fo
open PySem PySem.Spec PyProof.Rows L2
/-! ### what a hidden list holds is known for a while -/
def Wd.fix (W : Wd) (C : Hp → Prop) (A : List Addr) (hA : ∀ a ∈ A, a ∈ W.M) (hC : ∀ {H H'}, C H → (∀ a ∈ A, H' a = H a) → C H') : Wd where
  M := W.M
  Φ := fun h H => W.Φ h H ∧ C H
  al := fun hh ha => W.al hh.1 ha
  mo := fun hh x k => ⟨W.mo hh.1 x k, hC hh.2 fun a ha => k a (hA a ha)⟩
section
variable {K : PySem.W.Frag} {W : Wd} {G : Ctx} {te tv : TE} {T : Ty} {a : Addr} {xs : List V} {σ : L2.St} {H : Hp} {D : Ends}
theorem EV.ixO {i : Nat} {z : V} (h : EV W G te (Ty.is (.ref a))) (hq : ∀ H, W.ok H → H a = some (.lst xs)) (hz : xs[i]? = some z) : EV W G (tOp (rIxL K) te (tC (.int (i : Int)))) (Ty.is z) := ⟨fun ok fr k => h.run ok fr fun v H1 s1 p => by
  cases p
  exact ⟨a, xs, (i : Int), z, rfl, rfl, SqL.of (hq H1 s1.2), atI_nat hz, k z H1 s1 rfl⟩⟩
theorem run_setO {i j : Nat} (ha : G[j]? = some (some (Ty.is (.ref a)))) (hv : EV W G tv T) (hq : ∀ H, W.ok H → H a = some (.lst xs)) (hi : i < xs.length) (ok : W.ok H) (fr : Fr (W.v H) G σ)
    (k : ∀ z H', W.st H H' → T.p (W.v H') z → Fr (W.v H') G σ → D.nx σ (upd H' a (.lst (xs.set i z)))) : tAsg tv (gSub (tVar j) (tC (.int (i : Int))) rSetL) D σ H :=
  hv.run ok fr fun z H1 s1 pz => (EV.var (W := W) ha).run s1.2 (fr.mo s1.1) fun o H2 s2 po => by
    cases po
    refine ⟨a, xs, (i : Int), i, rfl, rfl, hq H2 s2.2, ?_, k z H2 (s1.trans s2) (T.mo s2.1 pz) (fr.mo (s1.trans s2).1)⟩
    unfold ixN
    rw [if_pos (by omega), if_pos (by omega), Int.toNat_natCast]
end
/-- the pool as it is -/
abbrev PlS := Int × Int × List Int
def PlE (p c : Addr) (s : PlS) (H : Hp) : Prop := H p = some (.lst [.int s.1, .int s.2.1, .ref c]) ∧ H c = some (.lst (s.2.2.map V.int))
theorem PlE.keep {p c : Addr} {s : PlS} {H H' : Hp} (h : PlE p c s H) (k : ∀ a ∈ [p, c], H' a = H a) : PlE p c s H' := ⟨by rw [k p (by simp)]; exact h.1, by rw [k c (by simp)]; exact h.2⟩
def plW {W : Wd} {p c : Addr} (L : LensP p c W) (s : PlS) : Wd := W.fix (PlE p c s) [p, c] (L.mem ()) PlE.keep
section
variable {W : Wd} {p c : Addr} {s s' : PlS} {H H' : Hp}
theorem plW.start (L : LensP p c W) (ok : W.ok H) : ∃ s : PlS, (plW L s).ok H := by
  obtain ⟨_, i, j, ns, e1, e2⟩ := L.at (s := ()) ok
  exact ⟨(i, j, ns), ok, e1, e2⟩
theorem plW.ne (L : LensP p c W) (ok : W.ok H) : p ≠ c := (L.at (s := ()) ok).1
theorem plW.put1 (L : LensP p c W) (ok : (plW L s).ok H) (i j : Int) : (plW L (i, j, s.2.2)).ok (upd H p (.lst [.int i, .int j, .ref c])) ∧ W.v (upd H p (.lst [.int i, .int j, .ref c])) = W.v H := by
  have hne := plW.ne L ok.1
  have e2 : upd H p (.lst [.int i, .int j, .ref c]) c = some (.lst (s.2.2.map V.int)) := by rw [upd_ne hne.symm]; exact ok.2.2
  obtain ⟨a, b⟩ := L.write (s := ()) (s' := ()) (H := H) (H' := upd H p (.lst [.int i, .int j, .ref c])) ok.1 (fun x hx => upd_ne fun z => hx (by rw [z]; simp)) ⟨hne, i, j, s.2.2, upd_same, e2⟩
  exact ⟨⟨a, upd_same, e2⟩, b⟩
theorem plW.put2 (L : LensP p c W) (ok : (plW L s).ok H) (ns : List Int) : (plW L (s.1, s.2.1, ns)).ok (upd H c (.lst (ns.map V.int))) ∧ W.v (upd H c (.lst (ns.map V.int))) = W.v H := by
  have hne := plW.ne L ok.1
  have e1 : upd H c (.lst (ns.map V.int)) p = some (.lst [.int s.1, .int s.2.1, .ref c]) := by rw [upd_ne hne]; exact ok.2.1
  obtain ⟨a, b⟩ := L.write (s := ()) (s' := ()) (H := H) (H' := upd H c (.lst (ns.map V.int))) ok.1 (fun x hx => upd_ne fun z => hx (by rw [z]; simp)) ⟨hne, s.1, s.2.1, ns, e1, upd_same⟩
  exact ⟨⟨a, e1, upd_same⟩, b⟩
end
end Fo
set_option Elab.async false
set_option linter.all false
set_option maxRecDepth 100000
set_option maxHeartbeats 1000000
namespace Fo
open PySem PySem.Spec PyProof.Rows L2
local macro_rules | `(tactic| walk_at "ev") => `(tactic| first
  | ((with_reducible apply EV.var); rfl)
  | (with_reducible exact EV.cst)
  | (with_reducible exact EVA.nil)
  | (with_reducible exact EVO.none)
  | ((with_reducible apply EVO.some); (· walk_at "ev"))
  | ((with_reducible apply EVA.cons); (· walk_at "ev"); (· walk_at "ev"))
  | ((with_reducible apply EV.op); (· walk_at "ev"); (· walk_at "ev"); (· walk_at "rv"))
  | ((with_reducible apply EV.un); (· walk_at "ev"); (· exact RU.neg))
  | ((with_reducible apply EV.chain); (· walk_at "ev"); (· walk_at "ev"); (· walk_at "rv"); (· walk_at "ev"); (· walk_at "rv"))
  | ((with_reducible apply EV.cb); (· walk_at "ev"); (· walk_at "rv"))
  | ((with_reducible apply EV.bits); (· walk_at "ev"))
  | ((with_reducible apply EV.slT); (· walk_at "ev"); (· walk_at "ev"); (· walk_at "ev"))
  | ((with_reducible apply EV.isN); (· walk_at "ev"))
  | ((with_reducible apply EV.notN); (· walk_at "ev"))
  | ((with_reducible apply EV.notV); (· walk_at "ev"))
  | ((with_reducible apply EV.andV); (· walk_at "ev"); (· intro _; walk_at "ev"))
  | ((with_reducible apply EVT.test); (· walk_at "ev"))
  | ((with_reducible apply EVT.B); (· walk_at "ev"))
  | ((with_reducible apply EVT.not); (· walk_at "ev"))
  | ((with_reducible apply EV.tup); (· walk_at "ev"); (· decide))
  | ((with_reducible apply EV.lst); (· walk_at "ev"); (· decide))
  | ((with_reducible apply EVI.list); (· walk_at "ev"))
  | ((with_reducible apply EVI.tup); (· walk_at "ev"))
  | ((with_reducible apply EVI.enum); (· walk_at "ev"))
  | ((with_reducible apply EVI.enumT); (· walk_at "ev"))
  | ((with_reducible apply EVI.zipT); (· walk_at "ev"); (· walk_at "ev")))
local macro_rules | `(tactic| walk_at "rv") => `(tactic| first
  | exact RV.I0
  | exact RV.oneShl (by decide)
  | exact RV.shrN
  | exact RV.odd
  | exact RC.isi_ii
  | exact RC.isi_ib
  | exact RC.isi_tt
  | exact RC.isi_ss
  | exact RC.lenT
  | exact RC.lenL
  | exact RC.sumF
  | exact RC.allF
  | exact RV.inTN
  | exact RV.inLN
  | exact RV.inTO
  | exact RC.tupOf
  | exact RC.lstOfT
  | exact RC.lstOfL
  | exact RC.int
  | exact RC.intB
  | exact RC.abs
  | exact RV.Eq rfl
  | exact RV.Ne rfl)
/-! ## the pool of chances -/
section
variable {P : Program} {w : World} {K : PySem.W.Frag} {mg : Str → Option Value} {base : Heap}
def spDraw : Sp := fun vs H Q _ => ∃ (W : Wd) (p c : Addr) (m : Nat), LensP p c W ∧ 0 < m ∧ m ≤ 1000 ∧ W.ok H ∧ vs = [.ref p, nV m] ∧ ∀ r H', r < m → W.st H H' → Q (nV r) H'
theorem mod_lt' (i : Int) {m : Nat} (hm : 0 < m) : ∃ r : Nat, r < m ∧ i % (m : Int) = (r : Int) := by
  have h1 := Int.emod_nonneg i (show (m : Int) ≠ 0 by omega)
  have h2 := Int.emod_lt_of_pos i (show (0 : Int) < m by omega)
  exact ⟨(i % (m : Int)).toNat, by omega, by omega⟩
theorem ok_law_draw (T : Tp K mg) : FnOk P w K mg base CX0 1 T.law_draw.a T.law_draw.fd p_law_draw spDraw := by
  refine T.law_draw.F.ok sc_law_draw (fun vs H Q E h => ?_) (fun cdv A outer s H vs Q E hr h => ?_)
  · obtain ⟨W, p, c, m, _, _, _, _, rfl, _⟩ := h
    rfl
  obtain ⟨W, p, c, m, L, hm, hm2, ok, rfl, kq⟩ := h
  have nd := sc_law_draw.nd
  refine ⟨_, (pss_cons (ps_asg (pe_op op_add (pe_ix ix_list (pv 0) pe_int (fun _ _ => rfl)) pe_int) (pg_sub (pv 0) pe_int set_list)) (pss_cons (ps_set (i := 2) nd rfl (Or.inl rfl) (pe_ix ix_list (pv 0) pe_int (fun _ _ => rfl))) (pss_cons (ps_if (pt_cmpR op_gt (pe_callB call_len_seq (by rfl) T.b_len PySem.boot_len (pa_cons (pv 2) pa_nil)) pe_int (nomark _)) (pss_cons (ps_set (i := 3) nd rfl (Or.inl rfl) (pe_op op_mod (pe_callTy call_int1 (by rfl) T.b_int (by decide +kernel) (pa_cons (pe_ix ix_list (pv 2) pe_int (fun _ _ => rfl)) pa_nil)) (pv 1))) (pss_cons (ps_asg (pe_op op_fdiv (pe_callTy call_int1 (by rfl) T.b_int (by decide +kernel) (pa_cons (pe_ix ix_list (pv 2) pe_int (fun _ _ => rfl)) pa_nil)) (pv 1)) (pg_sub (pv 2) pe_int set_list)) (pss_cons (ps_if (pt_cmpR op_eq (pe_ix ix_list (pv 2) pe_int (fun _ _ => rfl)) pe_int (nomark _)) (pss_one (ps_expr (pe_bm PySem.F.plainAttrs_list PySem.F.slot_list_pop PySem.F.type_list_pop mt_popAt (pv 2) (pa_cons pe_int pa_nil)))) pss_nil) (pss_one (ps_ret (pv 3)))))) pss_nil) (pss_cons (ps_set (i := 4) nd rfl (Or.inl rfl) (pe_op op_mod (pe_callTy call_int1 (by rfl) T.b_int (by decide +kernel) (pa_cons (pe_op op_mul (pe_op op_add (pe_ix ix_list (pv 0) pe_int (fun _ _ => rfl)) (pe_op op_mul pe_int (pe_ix ix_list (pv 0) pe_int (fun _ _ => rfl)))) pe_int) pa_nil)) pe_int)) (pss_cons (ps_set (i := 4) nd rfl (Or.inl rfl) (pe_op op_mod (pe_callTy call_int1 (by rfl) T.b_int (by decide +kernel) (pa_cons (pe_op op_mul (pv 4) (pe_op op_add (pe_op op_fdiv (pv 4) pe_int) pe_int)) pa_nil)) pe_int)) (pss_cons (ps_set (i := 4) nd rfl (Or.inl rfl) (pe_op op_mod (pe_callTy call_int1 (by rfl) T.b_int (by decide +kernel) (pa_cons (pe_op op_mul (pv 4) (pe_op op_add (pe_op op_fdiv (pv 4) pe_int) pe_int)) pa_nil)) pe_int)) (pss_one (ps_ret (pe_op op_mod (pe_callTy call_int1 (by rfl) T.b_int (by decide +kernel) (pa_cons (pe_op op_fdiv (pv 4) pe_int) pa_nil)) (pv 1)))))))))), ?_⟩
  obtain ⟨s0, ok0⟩ := plW.start L ok
  have hp : ∀ s H, (plW L s).ok H → H p = some (.lst [.int s.1, .int s.2.1, .ref c]) := fun s H o => o.2.1
  have hc : ∀ s H, (plW L s).ok H → H c = some (.lst (s.2.2.map V.int)) := fun s H o => o.2.2
  let G0 : Ctx := [some (Ty.is (.ref p)), some (tN m), none, none, none]
  have fr : Fr (W.v H) G0 (L2.start n_law_draw [.ref p, nV m]) := ⟨rfl, rfl, trivial⟩
  refine run_seq (run_setO (W := plW L s0) (i := 1) (j := 0) (a := p) rfl (EV.op (EV.ixO (i := 1) (EV.var rfl) (hp s0) rfl) EV.cst RV.I0) (hp s0) (by show 1 < 3; decide) ok0 fr fun z H1 s1 pz fr1 => ?_)
  cases pz
  obtain ⟨ok2, v2⟩ := plW.put1 L s1.2 s0.1 (s0.2.1 + 1)
  have s2 : W.st H (upd H1 p (.lst [.int s0.1, .int (s0.2.1 + 1), .ref c])) := ⟨by rw [v2]; exact s1.1, ok2.1⟩
  let s : PlS := (s0.1, s0.2.1 + 1, s0.2.2)
  dsimp only
  refine run_asg (W := plW L s) (EV.ixO (i := 2) (EV.var rfl) (hp s) rfl) ok2 (fr.mo s2.1) fun v3 H3 s3 p3 fr3 => ?_
  have t3 : W.st H H3 := s2.trans ⟨s3.1, s3.2.1⟩
  refine run_ifb (W := plW L s) (EVT.B (EV.op (EV.lenOwn (K := K) (EV.var (i := 2) rfl) (hc s) (List.length_map _)) EV.cst RV.I0)) s3.2 fr3 (fun h H4 s4 fr4 => ?_) (fun h H4 s4 fr4 => run_next ?_)
  · have h0 : 0 < s.2.2.length := by simpa using h
    obtain ⟨n0, ns, en⟩ : ∃ n0 ns, s.2.2 = n0 :: ns := by
      cases q : s.2.2 with
      | nil => rw [q] at h0; cases h0
      | cons a b => exact ⟨a, b, rfl⟩
    have t4 : W.st H H4 := t3.trans ⟨s4.1, s4.2.1⟩
    have hc0 : ∀ H, (plW L s).ok H → H c = some (.lst (V.int n0 :: ns.map V.int)) := fun H o => by have := hc s H o; rw [en] at this; exact this
    obtain ⟨r, hr1, hr2⟩ := mod_lt' n0 hm
    refine run_assoc (run_asg (T := tN r) (EV.eq (EV.op (EV.cb (EVA.cons (EV.ixO (i := 0) (EV.var rfl) hc0 rfl) EVA.nil) RC.int) (EV.var rfl) (RV.I (by show (0 : Int) < (m : Int); omega))) (by rw [hr2])) s4.2 fr4 fun v5 H5 s5 p5 fr5 => ?_)
    cases p5
    have t5 : W.st H H5 := t4.trans ⟨s5.1, s5.2.1⟩
    refine run_assoc (run_seq (run_setO (W := plW L s) (i := 0) (j := 2) (a := c) rfl (EV.op (EV.cb (EVA.cons (EV.ixO (i := 0) (EV.var rfl) hc0 rfl) EVA.nil) RC.int) (EV.var rfl) (RV.I (by show (0 : Int) < (m : Int) ∧ (m : Int) < 1073741824; omega))) hc0 (by show 0 < _ + 1; omega) s5.2 fr5 fun z6 H6 s6 p6 fr6 => ?_))
    cases p6
    obtain ⟨ok7, v7⟩ := plW.put2 L s6.2 (n0 / (m : Int) :: ns)
    have t7 : W.st H (upd H6 c (.lst ((n0 / (m : Int) :: ns).map V.int))) := t5.trans ⟨by rw [v7]; exact s6.1, ok7.1⟩
    let s' : PlS := (s.1, s.2.1, n0 / (m : Int) :: ns)
    dsimp only
    have fr7 := fr6
    change Fr (W.v H6) _ _ at fr7
    rw [← v7] at fr7
    refine run_assoc (run_ifb (W := plW L s') (EVT.B (EV.op (EV.ixO (i := 0) (EV.var (i := 2) rfl) (hc s') rfl) EV.cst (RV.Eq rfl))) ok7 fr7 (fun h H8 s8 fr8 => ?_) (fun h H8 s8 fr8 => run_next ?_))
    · refine run_seq (run_dropQ (run_bm (W := plW L s') (EV.var (i := 2) rfl) s8.2 fr8 fun H9 s9 fr9 => ⟨.inl ⟨rfl, _, SqL.of (hc s' _ s9.2)⟩, run_args (EVA.cons EV.cst EVA.nil) s9.2 fr9 fun zs Ha sa pa fra => ?_⟩))
      obtain ⟨z, rfl, pz⟩ := al1 pa
      cases pz
      refine ⟨c, _, 0, 0, _, rfl, rfl, hc s' _ sa.2, by decide, by decide, seqIndex?_zero (by rw [List.length_map]; show 0 < ns.length + 1; omega), rfl, ?_⟩
      obtain ⟨okb, vb⟩ := plW.put2 L sa.2 ns
      have tb : W.st H (upd Ha c (.lst (ns.map V.int))) := t7.trans (⟨by rw [vb]; exact ((s8.trans s9).trans sa).1, okb.1⟩)
      have frb := fra
      change Fr (W.v Ha) _ _ at frb
      rw [← vb] at frb
      refine run_ev (W := W) (te := tVar 3) (EV.var (T := tN r) rfl) tb.2 frb fun v H' s p _ => ?_
      cases p
      exact kq r H' hr1 (tb.trans s)
    · have t8 : W.st H H8 := t7.trans ⟨s8.1, s8.2.1⟩
      refine run_ev (W := W) (te := tVar 3) (EV.var (T := tN r) rfl) t8.2 fr8 fun v H' s p _ => ?_
      cases p
      exact kq r H' hr1 (t8.trans s)
  · have t4 : W.st H H4 := t3.trans ⟨s4.1, s4.2.1⟩
    have bd : ∀ i : Int, CMul (i % 2147483647) (i % 2147483647) ∧ ∀ j, CMul (i % 2147483647) j := fun i => by
      have h1 := Int.emod_nonneg i (show (2147483647 : Int) ≠ 0 by decide)
      have h2 := Int.emod_lt_of_pos i (show (0 : Int) < 2147483647 by decide)
      exact ⟨.inl ⟨by omega, by omega⟩, fun j => .inl ⟨by omega, by omega⟩⟩
    have c2 : ∀ i : Int, CMul i 48271 := fun i => .inr ⟨by decide, by decide⟩
    have c1 : ∀ i : Int, CMul 7919 i := fun i => .inl ⟨by decide, by decide⟩
    refine run_asg (W := plW L s) (EV.op (EV.cb (EVA.cons (EV.op (EV.op (EV.ixO (i := 0) (EV.var rfl) (hp s) rfl) (EV.op EV.cst (EV.ixO (i := 1) (EV.var rfl) (hp s) rfl) (RV.I (c1 _))) RV.I0) EV.cst (RV.I (c2 _))) EVA.nil) RC.int) EV.cst (RV.I (by show (0 : Int) < 2147483647; decide))) s4.2 fr4 fun v5 H5 s5 p5 fr5 => ?_
    refine run_asg (W := plW L s) (EV.op (EV.cb (EVA.cons (EV.op (EV.var rfl) (EV.op (EV.op (EV.var rfl) EV.cst (RV.I (by show (0 : Int) < 1009 ∧ (1009 : Int) < 1073741824; decide))) EV.cst RV.I0) (RV.I ((bd _).2 _))) EVA.nil) RC.int) EV.cst (RV.I (by show (0 : Int) < 2147483647; decide))) s5.2 fr5 fun v6 H6 s6 p6 fr6 => ?_
    refine run_asg (W := plW L s) (EV.op (EV.cb (EVA.cons (EV.op (EV.var rfl) (EV.op (EV.op (EV.var rfl) EV.cst (RV.I (by show (0 : Int) < 2003 ∧ (2003 : Int) < 1073741824; decide))) EV.cst RV.I0) (RV.I ((bd _).2 _))) EVA.nil) RC.int) EV.cst (RV.I (by show (0 : Int) < 2147483399; decide))) s6.2 fr6 fun v7 H7 s7 p7 fr7 => ?_
    refine run_ret (W := plW L s) (EV.op (EV.cb (EVA.cons (EV.op (EV.var rfl) EV.cst (RV.I (by show (0 : Int) < 16 ∧ (16 : Int) < 1073741824; decide))) EVA.nil) RC.int) (EV.var rfl) (RV.I (by show (0 : Int) < (m : Int); omega))) s7.2 fr7 fun v8 H8 s8 p8 => ?_
    cases p8
    have s58 := ((s5.trans s6).trans s7).trans s8
    have t8 : W.st H H8 := t4.trans ⟨s58.1, s58.2.1⟩
    obtain ⟨r, hr1, hr2⟩ := mod_lt' _ hm
    have := kq r H8 hr1 t8
    rw [show nV r = V.int (r : Int) from rfl, ← hr2] at this
    exact this
/-- a chance -/
theorem EV.draw {W : Wd} {G : Ctx} {E : XK} {p c : Addr} {m : Nat} {ta tb : TE} (L : LensP p c W) (h0 : 0 < m) (h1 : m ≤ 1000) (ha : EV W G ta (Ty.is (.ref p))) (hb : EV W G tb (tN m)) : EV W G (tCall spDraw [] E (tCons ta (tCons tb tNil))) (Ty.exP (fun r => r < m) tN) := ⟨fun ok fr k =>
  (EVA.cons ha (EVA.cons hb EVA.nil)).run ok fr fun vs H1 s1 p1 => by
    obtain ⟨x, y, rfl, p, q⟩ := al2 p1
    cases p; cases q
    exact ⟨W, _, c, m, L, h0, h1, s1.2, rfl, fun r H' hr s => k _ H' (s1.trans s) ⟨r, hr, rfl⟩⟩⟩
end
end Fo
set_option Elab.async false
set_option linter.all false
set_option maxRecDepth 100000
set_option maxHeartbeats 1000000
namespace Fo
open PySem PySem.Spec PyProof.Rows L2
local macro_rules | `(tactic| walk_at "ev") => `(tactic| first
  | ((with_reducible apply EV.var); rfl)
  | (with_reducible exact EV.cst)
  | (with_reducible exact EVA.nil)
  | (with_reducible exact EVO.none)
  | ((with_reducible apply EVO.some); (· walk_at "ev"))
  | ((with_reducible apply EVA.cons); (· walk_at "ev"); (· walk_at "ev"))
  | ((with_reducible apply EV.op); (· walk_at "ev"); (· walk_at "ev"); (· walk_at "rv"))
  | ((with_reducible apply EV.un); (· walk_at "ev"); (· exact RU.neg))
  | ((with_reducible apply EV.chain); (· walk_at "ev"); (· walk_at "ev"); (· walk_at "rv"); (· walk_at "ev"); (· walk_at "rv"))
  | ((with_reducible apply EV.cb); (· walk_at "ev"); (· walk_at "rv"))
  | ((with_reducible apply EV.bits); (· walk_at "ev"))
  | ((with_reducible apply EV.slT); (· walk_at "ev"); (· walk_at "ev"); (· walk_at "ev"))
  | ((with_reducible apply EV.isN); (· walk_at "ev"))
  | ((with_reducible apply EV.notN); (· walk_at "ev"))
  | ((with_reducible apply EV.notV); (· walk_at "ev"))
  | ((with_reducible apply EV.andV); (· walk_at "ev"); (· intro _; walk_at "ev"))
  | ((with_reducible apply EVT.test); (· walk_at "ev"))
  | ((with_reducible apply EVT.B); (· walk_at "ev"))
  | ((with_reducible apply EVT.not); (· walk_at "ev"))
  | ((with_reducible apply EV.tup); (· walk_at "ev"); (· decide))
  | ((with_reducible apply EV.lst); (· walk_at "ev"); (· decide))
  | ((with_reducible apply EVI.list); (· walk_at "ev"))
  | ((with_reducible apply EVI.tup); (· walk_at "ev"))
  | ((with_reducible apply EVI.enum); (· walk_at "ev"))
  | ((with_reducible apply EVI.enumT); (· walk_at "ev"))
  | ((with_reducible apply EVI.zipT); (· walk_at "ev"); (· walk_at "ev")))
local macro_rules | `(tactic| walk_at "rv") => `(tactic| first
  | exact RV.I0
  | exact RV.oneShl (by decide)
  | exact RV.shrN
  | exact RV.odd
  | exact RC.isi_ii
  | exact RC.isi_ib
  | exact RC.isi_tt
  | exact RC.isi_ss
  | exact RC.lenT
  | exact RC.lenL
  | exact RC.sumF
  | exact RC.allF
  | exact RV.inTN
  | exact RV.inLN
  | exact RV.inTO
  | exact RC.tupOf
  | exact RC.lstOfT
  | exact RC.lstOfL
  | exact RC.int
  | exact RC.intB
  | exact RC.abs
  | exact RV.Eq rfl
  | exact RV.Ne rfl)
/-! ## the pool's making -/
section
variable {P : Program} {w : World} {K : PySem.W.Frag} {mg : Str → Option Value} {base : Heap}
theorem run_lst3 {te : TE} {x : V} {j : Nat} {σ : L2.St} {H : Hp} {Q : VK} (h : σ[j]? = some (some x)) (k : te σ H fun z H' => 3 ≤ sizeLine ∧ ∀ p, H' p = none → Q (.ref p) (upd H' p (.lst [x, .int 0, z]))) : tLst (tCons (tVar j) (tCons (tC (.int 0)) (tCons te tNil))) σ H Q := ⟨x, h, k⟩
theorem run_retQ {te : TE} {σ : L2.St} {H : Hp} {D : Ends} (k : te σ H D.rt) : tRet te D σ H := k
def spPool (K : PySem.W.Frag) : Sp := fun vs H Q _ => ∃ (W : Wd) (a : Addr) (ns : List Int), ns.length ≤ 63 ∧ W.ok H ∧ vs = [.ref a] ∧ (Ty.ints K ns).p (W.v H) (.ref a) ∧
  ∀ p c H', p ∉ W.M → c ∉ W.M → (W.cell [p, c] (PlAt p c) PlAt.cl).ok H' → Xt (W.v H) ((W.cell [p, c] (PlAt p c) PlAt.cl).v H') → Q (.ref p) H'
theorem ok_law_pool (T : Tp K mg) : FnOk P w K mg base CX0 1 T.law_pool.a T.law_pool.fd p_law_pool (spPool K) := by
  refine T.law_pool.F.ok sc_law_pool (fun vs H Q E h => ?_) (fun cdv A outer s H vs Q E hr h => ?_)
  · obtain ⟨W, a, ns, _, _, rfl, _⟩ := h
    rfl
  obtain ⟨W, a, ns, hn, ok, rfl, pa, kq⟩ := h
  have nd := sc_law_pool.nd
  refine ⟨_, (pss_cons (ps_set (i := 1) nd rfl (Or.inl rfl) (pe_op op_add (pe_op op_add (pe_op op_mod (pe_callTy call_int1 (by rfl) T.b_int (by decide +kernel) (pa_cons (pe_callB (cr_sum rfl) (by rfl) T.b_sum (by decide +kernel) (pa_cons (pe_slice sl_list (pv 0) po_none (po_some pe_int)) pa_nil)) pa_nil)) pe_int) (pe_callB call_len_seq (by rfl) T.b_len PySem.boot_len (pa_cons (pv 0) pa_nil))) pe_int)) (pss_cons (ps_for PassesOwn.never rfl (pi_list (pe_slice sl_list (pv 0) po_none (po_some pe_int))) (pg_name (i := 2) nd rfl (Or.inl rfl)) (pss_one (ps_set (i := 1) nd rfl (Or.inl rfl) (pe_op op_mod (pe_callTy call_int1 (by rfl) T.b_int (by decide +kernel) (pa_cons (pe_op op_add (pe_op op_add (pe_op op_mul (pv 1) pe_int) (pe_op op_mod (pe_callTy call_int1 (by rfl) T.b_int (by decide +kernel) (pa_cons (pv 2) pa_nil)) pe_int)) pe_int) pa_nil)) pe_int)))) (pss_one (ps_ret (pe_lst (pa_cons (pv 1) (pa_cons pe_int (pa_cons (pe_lc (own := [("_law_cell", 2)]) rfl nd (pi_list (pe_slice sl_list (pv 0) po_none (po_some pe_int))) (blkOk_by (own := [("_law_cell", 2)]) (N := n_law_pool) (sc := defScope s_law_pool) (by decide +kernel)) (fun _ _ _ _ _ => (pg_name (i := 2) nd rfl (Or.inl rfl))) (fun _ _ _ _ _ => (pts_one (pt_cmpR op_ge (pe_callB call_abs (by rfl) T.b_abs (by decide +kernel) (pa_cons (pv 2) pa_nil)) (pe_op op_pow pe_int pe_int) (nomark _)))) (fun _ _ _ _ _ => (pe_callB call_abs (by rfl) T.b_abs (by decide +kernel) (pa_cons (pv 2) pa_nil)))) pa_nil)))))))), ?_⟩
  have fr : Fr (W.v H) [some (Ty.ints K ns), none, none] (L2.start n_law_pool [.ref a]) := ⟨pa, trivial⟩
  refine run_asg (EV.op (EV.op (EV.op (EV.cb (EVA.cons (EV.cb (EVA.cons (EV.slI (EV.var rfl) EVO.none (EVO.some EV.cst)) EVA.nil) RC.sum) EVA.nil) RC.int) EV.cst (RV.I (by show (0 : Int) < 1000003; decide))) (EV.cb (EVA.cons (EV.var rfl) EVA.nil) RC.lenI) RV.I0) EV.cst RV.I0) ok fr fun v1 H1 s1 p1 fr1 => ?_
  let G : Ctx := [some (Ty.ints K ns), some tAI, none]
  have fr1' := Fr.up (U := tAI) (fun v p => Fo.ai _ v p) 1 fr1
  let cs := cutT ns none (some 63)
  have hcs : cs.length ≤ 63 := by
    show (cutT ns none (some ((63 : Nat) : Int))).length ≤ 63
    rw [cut_to, List.length_take]
    omega
  refine run_seq ((SB.for_ (W := W) (G := G) (vs := [2]) cs tInt (fun i g => g.set 2 (some (tInt i))) (EVI.eq (EVI.list (EV.slI (EV.var rfl) EVO.none (EVO.some EV.cst))) (by rw [List.map_map]; rfl)) (fun a _ => GT.name (by decide)) (fun i hi => SB.to (SB.asg (i := 1) (T := tAI) (EV.op (EV.cb (EVA.cons (EV.op (EV.op (EV.op (EV.var rfl) EV.cst (RV.aiC fun i => .inr ⟨by decide, by decide⟩)) (EV.ai (EV.op (EV.cb (EVA.cons (EV.var rfl) EVA.nil) RC.int) EV.cst (RV.I (by show (0 : Int) < 2147483629; decide)))) RV.ai0) (EV.ai EV.cst) RV.ai0) EVA.nil) RC.intA) EV.cst (RV.aiC fun i => by show (0 : Int) < 2147483647; decide))) fun H σ q => Fr.unset (i := 2) q rfl)).run s1.2 fr1' fun σ2 H2 s2 fr2 => ?_)
  have s12 := s1.trans s2
  obtain ⟨v, ev, i, e⟩ := fr2.get (i := 1) rfl
  cases e
  have hev : EVN W G (tLc (iList K (tSl (rSlL K) (tVar 0) tNoPart (tPart (tC (.int 63))))) (gName 2) (tB (tOp (rI0 fun i j => .bl (decide (i ≥ j))) (tCB (fun xs H Q => ∃ i, xs = [.int i] ∧ Q (.int (if i < 0 then -i else i)) H) (tCons (tVar 2) tNil)) (tOp (rI CPow fun i j => .int (i ^ j.toNat)) (tC (.int 10)) (tC (.int 18))))) (tCB (fun xs H Q => ∃ i, xs = [.int i] ∧ Q (.int (if i < 0 then -i else i)) H) (tCons (tVar 2) tNil)) [2]) ((cs.filter fun i => decide ((if i < 0 then -i else i) ≥ (10 : Int) ^ (18 : Int).toNat)).map fun i => tInt (if i < 0 then -i else i)) :=
    EVN.lcW cs tInt _ _ (fun i g => g.set 2 (some (tInt i))) (EVI.eq (EVI.list (EV.slI (EV.var rfl) EVO.none (EVO.some EV.cst))) (by rw [List.map_map]; rfl)) (fun a _ => GT.name (by decide)) (fun D o hD i hi => EVT.B (EV.op (EV.cb (EVA.cons (EV.var rfl) EVA.nil) RC.abs) (EV.op EV.cst EV.cst (RV.I ⟨by decide, by decide, by decide⟩)) RV.I0)) (fun D o hD i hi _ => EV.cb (EVA.cons (EV.var rfl) EVA.nil) RC.abs) (by omega)
  refine run_retQ (run_lst3 ev (hev.run s12.2 fr2 fun c acc H3 hc ok3 x3 al => ⟨by decide, fun p hp => ?_⟩))
  have hpM : p ∉ c :: W.M := ok3.nM hp
  have hpc : p ≠ c := fun z => hpM (by rw [z]; exact List.mem_cons_self)
  have hpW : p ∉ W.M := fun z => hpM (List.mem_cons_of_mem _ z)
  have e3 : H3 c = some (.lst acc) := ok3.at
  have ea : acc = ((cs.filter fun i => decide ((if i < 0 then -i else i) ≥ (10 : Int) ^ (18 : Int).toNat)).map fun i => if i < 0 then -i else i).map V.int := by
    have h : Al ((W.own c (.lst acc) trivial).v H3) ((((cs.filter fun i => decide ((if i < 0 then -i else i) ≥ (10 : Int) ^ (18 : Int).toNat)).map fun i => if i < 0 then -i else i).map V.int).map Ty.is) acc := by rw [List.map_map, List.map_map]; exact al
    exact al_is h
  let H4 := upd H3 p (.lst [.int i, .int 0, .ref c])
  have x4 : Xt ((W.own c (.lst acc) trivial).v H3) (vis ([p, c] ++ W.M) H4) := fun a o e => by
    obtain ⟨n, e⟩ := vis_some e
    have q1 : a ≠ p := fun z => by rw [z, hp] at e; cases e
    have q2 : a ≠ c := fun z => n (by rw [z]; exact List.mem_cons_self)
    rw [vis_eq (fun z => by rcases List.mem_append.mp z with z | z; · simp at z; exact z.elim q1 q2
                            · exact n (List.mem_cons_of_mem _ z))]
    show upd H3 p _ a = _
    rw [upd_ne q1]; exact e
  refine kq p c H4 hpW hc ⟨W.mo ok3.1 x4 fun a ha => upd_ne fun z => hpW (by rw [← z]; exact ha), hpc, i, 0, (cs.filter fun i => decide ((if i < 0 then -i else i) ≥ (10 : Int) ^ (18 : Int).toNat)).map fun i => if i < 0 then -i else i, upd_same, ?_⟩ ((s12.1.trans x3).trans x4)
  show upd H3 p _ c = _
  rw [upd_ne (fun z => hpc z.symm), e3, ea]
end
end Fo
set_option Elab.async false
set_option linter.all false
set_option maxRecDepth 100000
set_option maxHeartbeats 1000000
namespace Fo
open PySem PySem.Spec PyProof.Rows L2
local macro_rules | `(tactic| walk_at "ev") => `(tactic| first
  | ((with_reducible apply EV.var); rfl)
  | (with_reducible exact EV.cst)
  | (with_reducible exact EVA.nil)
  | (with_reducible exact EVO.none)
  | ((with_reducible apply EVO.some); (· walk_at "ev"))
  | ((with_reducible apply EVA.cons); (· walk_at "ev"); (· walk_at "ev"))
  | ((with_reducible apply EV.op); (· walk_at "ev"); (· walk_at "ev"); (· walk_at "rv"))
  | ((with_reducible apply EV.un); (· walk_at "ev"); (· exact RU.neg))
  | ((with_reducible apply EV.chain); (· walk_at "ev"); (· walk_at "ev"); (· walk_at "rv"); (· walk_at "ev"); (· walk_at "rv"))
  | ((with_reducible apply EV.cb); (· walk_at "ev"); (· walk_at "rv"))
  | ((with_reducible apply EV.bits); (· walk_at "ev"))
  | ((with_reducible apply EV.slT); (· walk_at "ev"); (· walk_at "ev"); (· walk_at "ev"))
  | ((with_reducible apply EV.isN); (· walk_at "ev"))
  | ((with_reducible apply EV.notN); (· walk_at "ev"))
  | ((with_reducible apply EV.notV); (· walk_at "ev"))
  | ((with_reducible apply EV.andV); (· walk_at "ev"); (· intro _; walk_at "ev"))
  | ((with_reducible apply EVT.test); (· walk_at "ev"))
  | ((with_reducible apply EVT.B); (· walk_at "ev"))
  | ((with_reducible apply EVT.not); (· walk_at "ev"))
  | ((with_reducible apply EV.tup); (· walk_at "ev"); (· decide))
  | ((with_reducible apply EV.lst); (· walk_at "ev"); (· decide))
  | ((with_reducible apply EVI.list); (· walk_at "ev"))
  | ((with_reducible apply EVI.tup); (· walk_at "ev"))
  | ((with_reducible apply EVI.enum); (· walk_at "ev"))
  | ((with_reducible apply EVI.enumT); (· walk_at "ev"))
  | ((with_reducible apply EVI.zipT); (· walk_at "ev"); (· walk_at "ev")))
local macro_rules | `(tactic| walk_at "rv") => `(tactic| first
  | exact RV.I0
  | exact RV.oneShl (by decide)
  | exact RV.shrN
  | exact RV.odd
  | exact RC.isi_ii
  | exact RC.isi_ib
  | exact RC.isi_tt
  | exact RC.isi_ss
  | exact RC.lenT
  | exact RC.lenL
  | exact RC.sumF
  | exact RC.allF
  | exact RV.inTN
  | exact RV.inLN
  | exact RV.inTO
  | exact RC.tupOf
  | exact RC.lstOfT
  | exact RC.lstOfL
  | exact RC.int
  | exact RC.intB
  | exact RC.abs
  | exact RV.Eq rfl
  | exact RV.Ne rfl)
/-! ## things in some order -/
section
variable {P : Program} {w : World} {K : PySem.W.Frag} {mg : Str → Option Value} {base : Heap}
def spMixed : Sp := fun vs H Q _ => ∃ (W : Wd) (p c : Addr) (things : List Nat), LensP p c W ∧ things.length ≤ 4 ∧ W.ok H ∧ Al (W.v H) [Ty.is (.ref p), Ty.lst (things.map tN)] vs ∧
  ∀ (l : List Nat) v H', l.Perm things → W.st H H' → (Ty.lst (l.map tN)).p (W.v H') v → Q v H'
theorem al_nV {H : Hp} {d : List Nat} {vs : List V} (al : Al H (d.map tN) vs) : vs = d.map nV := by
  have h : Al H ((d.map nV).map Ty.is) vs := by rw [List.map_map]; exact al
  exact al_is h
theorem ok_law_mixed (T : Tp K mg) : FnOk P w K mg base CX0 2 T.law_mixed.a T.law_mixed.fd p_law_mixed spMixed := by
  refine T.law_mixed.F.ok sc_law_mixed (fun vs H Q E h => ?_) (fun cdv A outer s H vs Q E hr h => ?_)
  · obtain ⟨W, p, c, things, _, _, _, al, _⟩ := h
    rw [← al.len]; rfl
  obtain ⟨W, p, c, things, L, h4, ok, al, kq⟩ := h
  have nd := sc_law_mixed.nd
  refine ⟨_, (pss_cons (ps_set (i := 2) nd rfl (Or.inr rfl) (pe_callTy call_list_of (by rfl) T.b_list (by decide +kernel) (pa_cons (pv 1) pa_nil))) (pss_one (ps_ret (pe_lc (own := [("_law_k", 3)]) rfl nd (pi_range1 (by rfl) T.b_range (pa_cons (pe_callB call_len_seq (by rfl) T.b_len PySem.boot_len (pa_cons (pv 2) pa_nil)) pa_nil)) (blkOk_by (own := [("_law_k", 3)]) (N := n_law_mixed) (sc := defScope s_law_mixed) (by decide +kernel)) (fun _ _ _ _ _ => (pg_name (i := 3) nd rfl (Or.inl rfl))) (fun _ _ _ _ _ => pts_nil) (fun _ _ _ _ _ => (pe_bmK (K := K) rfl PySem.F.plainAttrs_list PySem.F.slot_list_pop PySem.F.type_list_pop mt_popAt (pv 2) (pa_cons (pe_call (ok_law_draw T) (hr.mono (by first | decide | omega)) rfl T.law_draw.m T.law_draw.F.kp T.law_draw.b .nil pass0 (pa_cons (pv 0) (pa_cons (pe_callB (cr_lenK (K := K) rfl) (by rfl) T.b_len PySem.boot_len (pa_cons (pv 2) pa_nil)) pa_nil))) pa_nil))))))), ?_⟩
  have e : vs.length = p_law_mixed.length := by rw [← al.len]; rfl
  have fr : Fr (W.v H) [some (Ty.is (.ref p)), some (Ty.lst (things.map tN)), none, none] (L2.start n_law_mixed vs) := by
    unfold L2.start
    rw [e]
    exact Fr.start (n := 2) al
  refine run_asgQ ?_
  refine run_cbQ (run_args (EVA.cons (EV.var (i := 1) rfl) EVA.nil) ok fr fun us H1 s1 p1 fr1 => ?_)
  obtain ⟨v, rfl, b, xs, rfl, hb, alb⟩ := al1 p1
  refine ⟨b, xs, rfl, .inl (SqL.of (vis_some hb).2), fun q hq => ?_⟩
  rw [al_nV alb]
  have hqM := s1.2.nM hq
  let F : List Nat → Wd := fun left => W.own q (.lst (left.map nV)) trivial
  have ok2 : (F things).ok (upd H1 q (.lst (things.map nV))) := s1.2.own hq
  have v2 : (F things).v (upd H1 q (.lst (things.map nV))) = W.v H1 := own_v s1.2 hq
  let G : Ctx := [some (Ty.is (.ref p)), some (Ty.lst (things.map tN)), some (Ty.is (.ref q)), none]
  have fr2 : Fr ((F things).v (upd H1 q (.lst (things.map nV)))) G ((L2.start n_law_mixed vs).set 2 (some (.ref q))) := by
    rw [v2]
    exact fr1.set (T := Ty.is (.ref q)) rfl 2
  have LF : ∀ left, LensP p c (F left) := fun left => Lens.own (s := ()) L hqM
  refine run_retQ (run_lcM (F := F) (s0 := things) (fun _ _ => rfl) (List.range things.length) tN (fun k g => g.set 3 (some (tN k))) (fun i left ts => ∃ l : List Nat, ts = l.map tN ∧ (l ++ left).Perm things ∧ l.length = i) (EVI.rng1 (EVA.cons (EV.lenOwn (EV.var (i := 2) rfl) (fun H o => o.at) (List.length_map _)) EVA.nil) (by omega)) (fun a _ => GT.name (by decide)) ⟨[], rfl, List.Perm.refl _, rfl⟩ (by rw [List.length_range]; omega) (fun i left ts ⟨l, e, _, hl⟩ => by rw [e, List.length_map, hl]; exact Nat.le_refl _) (fun D acc i k left ts σ H3 N hD hk hj ok3 fr3 kT kF => ?_) ok2 fr2 fun v H' left ts hj ok' x' pv => ?_)
  · obtain ⟨l, rfl, hperm, hl⟩ := hj
    obtain ⟨hi, ek⟩ := List.getElem?_eq_some_iff.mp hk
    rw [List.length_range] at hi
    have hlen : 0 < left.length := by
      have := hperm.length_eq
      rw [List.length_append] at this
      omega
    have hlen4 : left.length ≤ 4 := by
      have := hperm.length_eq
      rw [List.length_append] at this
      omega
    have LD : LensP p c ((F left).own D (.lst acc) trivial) := Lens.own (s := ()) (LF left) hD
    have atQ : ∀ H, ((F left).own D (.lst acc) trivial).ok H → H q = some (.lst (left.map nV)) := fun H o => o.1.2
    refine EVT.yes.run ok3 fr3 fun H4 s4 => iteT ?_
    have fr4 := fr3.mo s4.1
    refine run_bm (EV.var (i := 2) rfl) s4.2 fr4 fun H5 s5 fr5 => ⟨.inl ⟨rfl, _, SqL.of (atQ _ s5.2)⟩, run_args (EVA.cons (EV.draw LD hlen (by omega) (EV.var (i := 0) rfl) (EV.lenOwn (EV.var (i := 2) rfl) atQ (List.length_map _))) EVA.nil) s5.2 fr5 fun zs H6 s6 p6 fr6 => ?_⟩
    obtain ⟨z, rfl, r, hr, ez⟩ := al1 p6
    cases ez
    have hrl : r < left.length := hr
    refine ⟨q, left.map nV, (r : Int), r, nV left[r], rfl, rfl, atQ _ s6.2, by omega, by omega, ?_, ?_, ?_⟩
    · rw [List.length_map]
      have := seqIndex_at (i := (r : Int)) (n := left.length) (by omega) (by omega)
      rw [this, Int.toNat_natCast]
    · rw [List.getElem?_map, List.getElem?_eq_getElem hrl]; rfl
    · have hDq : D ≠ q := fun z => hD (by rw [z]; exact List.mem_cons_self)
      have ee : (left.map nV).eraseIdx r = (left.eraseIdx r).map nV := by rw [List.eraseIdx_eq_take_drop_succ, List.eraseIdx_eq_take_drop_succ, ← List.map_take, ← List.map_drop, ← List.map_append]
      rw [ee]
      have o6 := s6.2
      have vv : ((F (left.eraseIdx r)).own D (.lst acc) trivial).v (upd H6 q (.lst ((left.eraseIdx r).map nV))) = ((F left).own D (.lst acc) trivial).v H6 := vis_upd_in (List.mem_cons_of_mem _ List.mem_cons_self)
      refine kT _ _ (left.eraseIdx r) (tN left[r]) ⟨l ++ [left[r]], by rw [List.map_append]; rfl, ?_, by rw [List.length_append, hl]; rfl⟩ ?_ ?_ rfl
      · refine List.Perm.trans ?_ hperm
        rw [List.append_assoc]
        refine List.Perm.append_left l ?_
        rw [List.eraseIdx_eq_take_drop_succ]
        have e9 : left = left.take r ++ left[r] :: left.drop (r + 1) := by rw [← List.drop_eq_getElem_cons hrl, List.take_append_drop]
        conv => rhs; rw [e9]
        show (left[r] :: (left.take r ++ left.drop (r + 1))).Perm _
        exact List.perm_middle.symm
      · refine ⟨⟨?_, upd_same⟩, by rw [upd_ne hDq]; exact o6.2⟩
        show W.Φ (((F (left.eraseIdx r)).own D (.lst acc) trivial).v _) _
        rw [vv]
        exact W.mo o6.1.1 (Xt.refl _) fun a ha => upd_ne fun z => hqM (by rw [← z]; exact ha)
      · rw [vv]; exact ((s4.trans s5).trans s6).1
  · obtain ⟨l, rfl, hperm, hl⟩ := hj
    rw [List.length_range] at hl
    have e0 : left = [] := by
      have := hperm.length_eq
      rw [List.length_append] at this
      exact List.length_eq_zero_iff.mp (by omega)
    subst e0
    rw [List.append_nil] at hperm
    have sub : Xt ((F []).v H') (W.v H') := own_sub
    refine kq l v H' hperm ⟨?_, ok'.show_⟩ ((Ty.lst _).mo sub pv)
    refine Xt.trans ?_ (x'.trans sub)
    rw [v2]; exact s1.1
theorem EV.mixed {W : Wd} {G : Ctx} {E : XK} {p c : Addr} {things : List Nat} {ta tb : TE} (L : LensP p c W) (h : things.length ≤ 4) (ha : EV W G ta (Ty.is (.ref p))) (hb : EV W G tb (Ty.lst (things.map tN))) : EV W G (tCall spMixed [] E (tCons ta (tCons tb tNil))) (Ty.exP (fun l : List Nat => l.Perm things) fun l => Ty.lst (l.map tN)) := ⟨fun ok fr k =>
  (EVA.cons ha (EVA.cons hb EVA.nil)).run ok fr fun vs H1 s1 p1 => ⟨W, p, c, things, L, h, s1.2, by rw [List.append_nil]; exact p1, fun l v H' hl s pv => k v H' (s1.trans s) ⟨l, hl, pv⟩⟩⟩
end
end Fo
set_option Elab.async false
set_option linter.all false
set_option maxRecDepth 100000
/-! The plain law: counts and dealings. -/
namespace Fo
/-- the ways to give the things T to the people ps, one by one -/
def ways (R : List (List Nat)) : List Nat → List Nat → List (List Nat)
  | [], _ => [[]]
  | p :: ps, T => ((R.getD p []).filter fun x => decide (x ∈ T)).flatMap fun x => (ways R ps (T.erase x)).map fun l => x :: l
theorem ways_len (R : List (List Nat)) : ∀ ps T, (ways R ps T).length = cntL R ps T
  | [], _ => rfl
  | p :: ps, T => by
    rw [ways, cntL_cons, List.length_flatMap]
    congr 1
    refine List.map_congr_left fun x _ => ?_
    rw [List.length_map, ways_len R ps (T.erase x)]
theorem ways_mem (R : List (List Nat)) : ∀ (ps T l : List Nat), T.Nodup → (l ∈ ways R ps T ↔ l.length = ps.length ∧ l.Nodup ∧ (∀ x ∈ l, x ∈ T) ∧ ∀ (i p x : Nat), ps[i]? = some p → l[i]? = some x → x ∈ R.getD p [])
  | [], T, l, hT => by
    rw [ways, List.mem_singleton]
    constructor
    · rintro rfl
      exact ⟨rfl, List.nodup_nil, fun x h => (by cases h), fun i p x h => (by simp at h)⟩
    · rintro ⟨h, _⟩
      exact List.length_eq_zero_iff.mp h
  | p :: ps, T, l, hT => by
    rw [ways, List.mem_flatMap]
    constructor
    · rintro ⟨x, hx, hl⟩
      obtain ⟨l', hl', rfl⟩ := List.mem_map.mp hl
      obtain ⟨hx1, hx2⟩ := List.mem_filter.mp hx
      have hx2 := of_decide_eq_true hx2
      obtain ⟨a, b, c, d⟩ := (ways_mem R ps (T.erase x) l' (hT.erase x)).mp hl'
      refine ⟨by rw [List.length_cons, List.length_cons, a], List.nodup_cons.mpr ⟨fun h => ?_, b⟩, fun y hy => ?_, fun i q y h1 h2 => ?_⟩
      · have := c x h
        exact (hT.mem_erase_iff.mp this).1 rfl
      · rcases List.mem_cons.mp hy with e | hy
        · rw [e]; exact hx2
        · exact List.mem_of_mem_erase (c y hy)
      · cases i with
        | zero =>
          simp at h1 h2
          rw [← h1, ← h2]; exact hx1
        | succ i => exact d i q y (by simpa using h1) (by simpa using h2)
    · rintro ⟨a, b, c, d⟩
      cases l with
      | nil => cases a
      | cons x l' =>
        obtain ⟨b1, b2⟩ := List.nodup_cons.mp b
        refine ⟨x, List.mem_filter.mpr ⟨d 0 p x rfl rfl, decide_eq_true (c x List.mem_cons_self)⟩, List.mem_map.mpr ⟨l', (ways_mem R ps (T.erase x) l' (hT.erase x)).mpr ⟨by simpa using a, b2, fun y hy => ?_, fun i q y h1 h2 => d (i + 1) q y (by simpa using h1) (by simpa using h2)⟩, rfl⟩⟩
        exact hT.mem_erase_iff.mpr ⟨fun e => b1 (by rw [← e]; exact hy), c y (List.mem_cons_of_mem _ hy)⟩
theorem ways_nd (R : List (List Nat)) (hR : ∀ p, (R.getD p []).Nodup) : ∀ ps T : List Nat, (ways R ps T).Nodup
  | [], _ => by rw [ways]; simp
  | p :: ps, T => by
    rw [ways]
    unfold List.Nodup
    rw [List.pairwise_flatMap]
    refine ⟨fun x _ => ?_, ?_⟩
    · rw [List.pairwise_map]
      exact (ways_nd R hR ps (T.erase x)).imp fun hab e => hab (by injection e)
    · refine ((hR p).sublist List.filter_sublist).imp fun {a b} hab => fun l1 h1 l2 h2 e => ?_
      obtain ⟨m1, _, rfl⟩ := List.mem_map.mp h1
      obtain ⟨m2, _, rfl⟩ := List.mem_map.mp h2
      injection e with e1 e2
      exact hab e1
/-! ### all the dealings -/
theorem mem_stepA {found : List (List Nat)} {row d : List Nat} : d ∈ stepA found row ↔ ∃ told x, d = told ++ [x] ∧ told ∈ found ∧ x ∈ row ∧ x ∉ told := by
  unfold stepA
  rw [List.mem_flatMap]
  constructor
  · rintro ⟨told, ht, hd⟩
    obtain ⟨x, hx, rfl⟩ := List.mem_map.mp hd
    obtain ⟨a, b⟩ := List.mem_filter.mp hx
    exact ⟨told, x, rfl, ht, a, by simpa using b⟩
  · rintro ⟨told, x, rfl, ht, hx, hn⟩
    exact ⟨told, ht, List.mem_map.mpr ⟨x, List.mem_filter.mpr ⟨hx, by simpa using hn⟩, rfl⟩⟩
theorem getD_left {l m : List Nat} {p : Nat} (h : p < l.length) : (l ++ m).getD p 0 = l.getD p 0 := by
  rw [List.getD_eq_getElem?_getD, List.getD_eq_getElem?_getD, List.getElem?_append_left h]
theorem getD_at {l : List Nat} {x : Nat} : (l ++ [x]).getD l.length 0 = x := by
  rw [List.getD_eq_getElem?_getD, List.getElem?_append_right (Nat.le_refl _), Nat.sub_self]; rfl
theorem getD_take {l : List Nat} {p k : Nat} (h : p < k) : (l.take k).getD p 0 = l.getD p 0 := by
  rw [List.getD_eq_getElem?_getD, List.getD_eq_getElem?_getD, List.getElem?_take_of_lt h]
theorem mem_take (R : List (List Nat)) : ∀ i, i ≤ R.length → ∀ d : List Nat, d ∈ (R.take i).foldl stepA [[]] ↔ d.length = i ∧ d.Nodup ∧ ∀ p, p < i → d.getD p 0 ∈ R.getD p []
  | 0, _, d => by
    rw [List.take_zero]
    show d ∈ [[]] ↔ _
    rw [List.mem_singleton]
    constructor
    · rintro rfl; exact ⟨rfl, List.nodup_nil, fun p h => (by omega)⟩
    · rintro ⟨h, _⟩; exact List.length_eq_zero_iff.mp h
  | i + 1, h, d => by
    have hi : i < R.length := h
    rw [List.take_succ, List.getElem?_eq_getElem hi, List.foldl_append]
    show d ∈ stepA _ R[i] ↔ _
    rw [mem_stepA]
    have eR : R.getD i [] = R[i] := by rw [List.getD_eq_getElem?_getD, List.getElem?_eq_getElem hi]; rfl
    constructor
    · rintro ⟨told, x, rfl, ht, hx, hn⟩
      obtain ⟨a, b, c⟩ := (mem_take R i (Nat.le_of_lt hi) told).mp ht
      refine ⟨by rw [List.length_append, a]; rfl, List.nodup_append.mpr ⟨b, by simp, fun y hy z hz e => ?_⟩, fun p hp => ?_⟩
      · rw [List.mem_singleton] at hz; subst hz; subst e; exact hn hy
      · by_cases hpi : p < i
        · have := c p hpi
          rw [getD_left (by omega)]
          exact this
        · have e : p = i := by omega
          subst e
          have := @getD_at told x
          rw [a] at this
          rw [this, eR]
          exact hx
    · rintro ⟨a, b, c⟩
      have hne : d ≠ [] := fun z => by rw [z] at a; cases a
      refine ⟨d.dropLast, d.getLast hne, (List.dropLast_concat_getLast hne).symm, (mem_take R i (Nat.le_of_lt hi) _).mpr ⟨by rw [List.length_dropLast, a]; rfl, b.sublist (List.dropLast_sublist d), fun p hp => ?_⟩, ?_, ?_⟩
      · have := c p (by omega)
        rw [List.dropLast_eq_take, getD_take (by omega)]
        exact this
      · have := c i (Nat.lt_succ_self i)
        rw [eR] at this
        have e2 : d.getLast hne = d.getD i 0 := by
          rw [List.getLast_eq_getElem, List.getD_eq_getElem?_getD, List.getElem?_eq_getElem (by omega)]
          simp [a]
        rw [e2]; exact this
      · intro hmem
        rw [← List.dropLast_concat_getLast hne] at b
        obtain ⟨_, _, k⟩ := List.nodup_append.mp b
        exact k _ hmem _ (List.mem_singleton.mpr rfl) rfl
theorem mem_allS {R : List (List Nat)} {d : List Nat} : d ∈ allS R ↔ Deal R d := by
  have h := mem_take R R.length (Nat.le_refl _) d
  rw [List.take_of_length_le (Nat.le_refl _)] at h
  exact h.trans ⟨fun ⟨a, b, c⟩ => ⟨a, b, c⟩, fun ⟨a, b, c⟩ => ⟨a, b, c⟩⟩
/-! ### standings, filled -/
/-- a standing fits a table: what is given is distinct, and is tied -/
structure SOk (R : List (List Nat)) (S : List (Option Nat)) : Prop where
  len : S.length = R.length
  tie : ∀ p x, S.getD p none = some x → x ∈ R.getD p []
  inj : ∀ p q x, S.getD p none = some x → S.getD q none = some x → p = q
/-- the things of those that have none yet -/
def proj (S : List (Option Nat)) (d : List Nat) : List Nat := (und S).map fun p => d.getD p 0
def fill (S : List (Option Nat)) (l : List Nat) : List Nat := (List.range S.length).map fun p => match S.getD p none with
  | some x => x
  | none => l.getD ((und S).idxOf p) 0
theorem fits_iff {S : List (Option Nat)} {d : List Nat} : fits S d = true ↔ ∀ p x, S.getD p none = some x → d.getD p 0 = x := by
  unfold fits
  rw [List.all_eq_true]
  constructor
  · intro h p x hp
    have hpl : p < S.length := by
      rcases Nat.lt_or_ge p S.length with q | q
      · exact q
      · rw [List.getD_eq_getElem?_getD, List.getElem?_eq_none q] at hp; cases hp
    have := h p (List.mem_range.mpr hpl)
    rw [hp] at this
    simp at this
    exact this.symm
  · intro h p hp
    cases q : S.getD p none with
    | none => simp
    | some x =>
      have := h p x q
      rw [this]
      simp
theorem mem_getD {S : List (Option Nat)} {x : Nat} : some x ∈ S ↔ ∃ p, p < S.length ∧ S.getD p none = some x := by
  constructor
  · intro h
    obtain ⟨p, hp, e⟩ := List.getElem_of_mem h
    exact ⟨p, hp, by rw [List.getD_eq_getElem?_getD, List.getElem?_eq_getElem hp, e]; rfl⟩
  · rintro ⟨p, hp, e⟩
    rw [List.getD_eq_getElem?_getD, List.getElem?_eq_getElem hp] at e
    have e : S[p] = some x := e
    rw [← e]; exact List.getElem_mem hp
theorem Deal.inj {R : List (List Nat)} {d : List Nat} (h : Deal R d) {p q : Nat} (hp : p < R.length) (hq : q < R.length) (e : d.getD p 0 = d.getD q 0) : p = q := by
  rw [← h.len] at hp hq
  rw [List.getD_eq_getElem?_getD, List.getD_eq_getElem?_getD, List.getElem?_eq_getElem hp, List.getElem?_eq_getElem hq] at e
  exact (List.getElem_inj h.nd).mp e
theorem Deal.lt {R : List (List Nat)} (hR : RowsOk R) {d : List Nat} (h : Deal R d) {p : Nat} (hp : p < R.length) : d.getD p 0 < R.length := (hR.2.2 _ (hR.row hp)).2 _ (h.tie p hp)
theorem proj_ways {R : List (List Nat)} {S : List (Option Nat)} {d : List Nat} (hR : RowsOk R) (hS : SOk R S) (hd : Deal R d) (hf : fits S d = true) : proj S d ∈ ways R (und S) (unu S) := by
  rw [ways_mem R _ _ _ unu_nd]
  have hl : ∀ p ∈ und S, p < R.length := fun p hp => by have := (und_mem.mp hp).1; rwa [hS.len] at this
  refine ⟨by rw [proj, List.length_map], ?_, fun x hx => ?_, fun i p x h1 h2 => ?_⟩
  · unfold proj List.Nodup
    rw [List.pairwise_map]
    exact (und_nd (S := S)).imp_of_mem fun {a b} ha hb hab e => hab (hd.inj (hl a ha) (hl b hb) e)
  · obtain ⟨p, hp, rfl⟩ := List.mem_map.mp hx
    refine unu_mem.mpr ⟨by rw [hS.len]; exact hd.lt hR (hl p hp), fun hm => ?_⟩
    obtain ⟨q, hq, e⟩ := mem_getD.mp hm
    have := fits_iff.mp hf q _ e
    rw [hS.len] at hq
    have e2 := hd.inj hq (hl p hp) this
    rw [e2, (und_mem.mp hp).2] at e
    cases e
  · unfold proj at h2
    rw [List.getElem?_map, h1] at h2
    cases h2
    exact hd.tie p (hl p (List.mem_of_getElem? h1))
theorem proj_inj {R : List (List Nat)} {S : List (Option Nat)} {d d' : List Nat} (hS : SOk R S) (hd : Deal R d) (hd' : Deal R d') (hf : fits S d = true) (hf' : fits S d' = true) (e : proj S d = proj S d') : d = d' := by
  refine List.ext_getElem (by rw [hd.len, hd'.len]) fun p h1 h2 => ?_
  have key : d.getD p 0 = d'.getD p 0 := by
    cases q : S.getD p none with
    | some x => rw [fits_iff.mp hf p x q, fits_iff.mp hf' p x q]
    | none =>
      have hp : p ∈ und S := und_mem.mpr ⟨by rw [hS.len, ← hd.len]; exact h1, q⟩
      unfold proj at e
      exact List.map_inj_left.mp e p hp
  rw [List.getD_eq_getElem?_getD, List.getD_eq_getElem?_getD, List.getElem?_eq_getElem h1, List.getElem?_eq_getElem h2] at key
  exact key
theorem fill_at {S : List (Option Nat)} {l : List Nat} {p : Nat} (hp : p < S.length) : (fill S l).getD p 0 = match S.getD p none with
  | some x => x
  | none => l.getD ((und S).idxOf p) 0 := by
  unfold fill
  rw [List.getD_eq_getElem?_getD, List.getElem?_map, List.getElem?_range hp]
  rfl
theorem fill_ok {R : List (List Nat)} {S : List (Option Nat)} {l : List Nat} (hR : RowsOk R) (hS : SOk R S) (hl : l ∈ ways R (und S) (unu S)) : Deal R (fill S l) ∧ fits S (fill S l) = true ∧ proj S (fill S l) = l := by
  obtain ⟨a, b, c, d⟩ := (ways_mem R _ _ _ unu_nd).mp hl
  have hlen : (fill S l).length = R.length := by unfold fill; rw [List.length_map, List.length_range, hS.len]
  have some_ : ∀ p x, S.getD p none = some x → (fill S l).getD p 0 = x := fun p x hx => by
    have hp : p < S.length := by
      rcases Nat.lt_or_ge p S.length with q | q
      · exact q
      · rw [List.getD_eq_getElem?_getD, List.getElem?_eq_none q] at hx; cases hx
    rw [fill_at hp, hx]
  have none_ : ∀ p, p ∈ und S → ∃ i, i < l.length ∧ (und S)[i]? = some p ∧ (fill S l).getD p 0 = l.getD i 0 := fun p hp => by
    obtain ⟨h1, _⟩ := idx_at hp
    obtain ⟨q1, q2⟩ := und_mem.mp hp
    refine ⟨(und S).idxOf p, by rw [a]; exact List.idxOf_lt_length_of_mem hp, h1, ?_⟩
    rw [fill_at q1, q2]
  have lmem : ∀ i, i < l.length → l.getD i 0 ∈ unu S := fun i hi => by
    rw [List.getD_eq_getElem?_getD, List.getElem?_eq_getElem hi]
    exact c _ (List.getElem_mem hi)
  have what : ∀ p, p < S.length → (∃ x, S.getD p none = some x ∧ (fill S l).getD p 0 = x) ∨ p ∈ und S := fun p hp => by
    cases q : S.getD p none with
    | some x => exact .inl ⟨x, rfl, some_ p x q⟩
    | none => exact .inr (und_mem.mpr ⟨hp, q⟩)
  have inj : ∀ p q, p < S.length → q < S.length → (fill S l).getD p 0 = (fill S l).getD q 0 → p = q := fun p q hp hq e => by
    rcases what p hp with ⟨x, hx, ex⟩ | hp'
    · rcases what q hq with ⟨y, hy, ey⟩ | hq'
      · rw [ex, ey] at e
        subst e
        exact hS.inj p q x hx hy
      · obtain ⟨j, hj, _, ej⟩ := none_ q hq'
        rw [ex, ej] at e
        have := (unu_mem.mp (lmem j hj)).2
        exact absurd (mem_getD.mpr ⟨p, hp, by rw [hx, e]⟩) this
    · obtain ⟨i, hi, ui, ei⟩ := none_ p hp'
      rcases what q hq with ⟨y, hy, ey⟩ | hq'
      · rw [ei, ey] at e
        have := (unu_mem.mp (lmem i hi)).2
        exact absurd (mem_getD.mpr ⟨q, hq, by rw [hy, e]⟩) this
      · obtain ⟨j, hj, uj, ej⟩ := none_ q hq'
        rw [ei, ej, List.getD_eq_getElem?_getD, List.getD_eq_getElem?_getD, List.getElem?_eq_getElem hi, List.getElem?_eq_getElem hj] at e
        have e2 := (List.getElem_inj b).mp e
        subst e2
        rw [ui] at uj
        exact Option.some.inj uj
  refine ⟨⟨hlen, ?_, fun p hp => ?_⟩, fits_iff.mpr some_, ?_⟩
  · refine List.pairwise_iff_getElem.mpr fun i j hi hj hij e => ?_
    have hj' : j < S.length := by rw [hlen, ← hS.len] at hj; exact hj
    have hi' : i < S.length := by omega
    have := inj i j hi' hj' (by rw [List.getD_eq_getElem?_getD, List.getD_eq_getElem?_getD, List.getElem?_eq_getElem hi, List.getElem?_eq_getElem hj, e])
    omega
  · rw [← hS.len] at hp
    rcases what p hp with ⟨x, hx, ex⟩ | hp'
    · rw [ex]; exact hS.tie p x hx
    · obtain ⟨i, hi, ui, ei⟩ := none_ p hp'
      rw [ei]
      exact d i p _ ui (by rw [List.getD_eq_getElem?_getD, List.getElem?_eq_getElem hi]; rfl)
  · refine List.ext_getElem (by rw [proj, List.length_map, a]) fun i h1 h2 => ?_
    have hiu : i < (und S).length := by rw [← a]; exact h2
    have hp : (und S)[i] ∈ und S := List.getElem_mem hiu
    obtain ⟨j, hj, uj, ej⟩ := none_ _ hp
    have hij : i = j := by
      obtain ⟨k1, k2⟩ := List.getElem?_eq_some_iff.mp uj
      exact ((List.getElem_inj und_nd).mp k2).symm
    subst hij
    have : (proj S (fill S l))[i] = (fill S l).getD (und S)[i] 0 := List.getElem_map _
    rw [this, ej, List.getD_eq_getElem?_getD, List.getElem?_eq_getElem h2]
    rfl
/-- as many dealings as the counter says -/
theorem deals_count {s : St3} (hR : RowsOk s.1) (hS : SOk s.1 s.2.1) : (deals s).length = cntL s.1 (und s.2.1) (unu s.2.1) := by
  rw [← ways_len]
  have nd : (deals s).Nodup := ((AllOk.all hR).asc.imp fun {a b} h e => by rw [e] at h; omega).sublist List.filter_sublist
  have hrow : ∀ p, (s.1.getD p []).Nodup := fun p => by
    by_cases hp : p < s.1.length
    · exact (hR.2.2 _ (hR.row hp)).1.imp fun h => Nat.ne_of_lt h
    · rw [List.getD_eq_getElem?_getD, List.getElem?_eq_none (by omega)]; exact List.nodup_nil
  have mem : ∀ d, d ∈ deals s ↔ Deal s.1 d ∧ fits s.2.1 d = true := fun d => by unfold deals; rw [List.mem_filter, mem_allS]
  have perm : ((deals s).map (proj s.2.1)).Perm (ways s.1 (und s.2.1) (unu s.2.1)) := by
    refine (List.perm_ext_iff_of_nodup ?_ (ways_nd _ hrow _ _)).mpr fun l => ?_
    · unfold List.Nodup
      rw [List.pairwise_map]
      exact nd.imp_of_mem fun {a b} ha hb hab e => hab (proj_inj hS ((mem a).mp ha).1 ((mem b).mp hb).1 ((mem a).mp ha).2 ((mem b).mp hb).2 e)
    · rw [List.mem_map]
      constructor
      · rintro ⟨d, hd, rfl⟩
        exact proj_ways hR hS ((mem d).mp hd).1 ((mem d).mp hd).2
      · intro hl
        obtain ⟨a, b, c⟩ := fill_ok hR hS hl
        exact ⟨_, (mem _).mpr ⟨a, b⟩, c⟩
  have := perm.length_eq
  rwa [List.length_map] at this
theorem SOk.st {R : List (List Nat)} {S : List (Option Nat)} (hR : RowsOk R) (h : SOk R S) : StOk R.length S := by
  refine ⟨h.len, ?_⟩
  let P1 := (List.range S.length).filter fun p => !decide (S.getD p none = none)
  let A := P1.map fun p => (S.getD p none).getD 0
  have val : ∀ p ∈ P1, ∃ x, S.getD p none = some x ∧ p < S.length ∧ x < R.length := fun p hp => by
    obtain ⟨a, b⟩ := List.mem_filter.mp hp
    have a := List.mem_range.mp a
    cases q : S.getD p none with
    | none => rw [q] at b; simp at b
    | some x => exact ⟨x, rfl, a, (hR.2.2 _ (hR.row (by rw [← h.len]; exact a))).2 _ (h.tie p x q)⟩
  have p1 : (und S ++ P1).Perm (List.range S.length) := List.filter_append_perm _ _
  have p2 : (unu S ++ A).Perm (List.range S.length) := by
    refine (List.perm_ext_iff_of_nodup ?_ List.nodup_range).mpr fun x => ?_
    · refine List.nodup_append.mpr ⟨unu_nd, ?_, fun a ha b hb e => ?_⟩
      · unfold A List.Nodup
        rw [List.pairwise_map]
        refine (List.nodup_range.sublist List.filter_sublist : P1.Nodup).imp_of_mem fun {a b} ha hb hab e => ?_
        obtain ⟨x, hx, _, _⟩ := val a ha
        obtain ⟨y, hy, _, _⟩ := val b hb
        rw [hx, hy] at e
        have e : x = y := e
        subst e
        exact hab (h.inj a b x hx hy)
      · obtain ⟨p, hp, rfl⟩ := List.mem_map.mp hb
        obtain ⟨x, hx, hl, _⟩ := val p hp
        rw [hx] at e
        have e : a = x := e
        subst e
        exact (unu_mem.mp ha).2 (mem_getD.mpr ⟨p, hl, hx⟩)
    · rw [List.mem_append, List.mem_range]
      constructor
      · rintro (hx | hx)
        · exact (unu_mem.mp hx).1
        · obtain ⟨p, hp, rfl⟩ := List.mem_map.mp hx
          obtain ⟨x, hx, hl, hxl⟩ := val p hp
          rw [hx, h.len]; exact hxl
      · intro hx
        by_cases hm : some x ∈ S
        · obtain ⟨p, hp, e⟩ := mem_getD.mp hm
          refine .inr (List.mem_map.mpr ⟨p, List.mem_filter.mpr ⟨List.mem_range.mpr hp, by rw [e]; simp⟩, by rw [e]; rfl⟩)
        · exact .inl (unu_mem.mpr ⟨hx, hm⟩)
  have l1 := p1.length_eq
  have l2 := p2.length_eq
  rw [List.length_append] at l1 l2
  have l3 : A.length = P1.length := List.length_map _
  omega
/-! ### one thing given more -/
theorem getD_set {S : List (Option Nat)} {p q x : Nat} (hp : p < S.length) : (S.set p (some x)).getD q none = if q = p then some x else S.getD q none := by
  rw [List.getD_eq_getElem?_getD, List.getD_eq_getElem?_getD]
  by_cases h : q = p
  · subst h
    rw [List.getElem?_set_self hp, if_pos rfl]; rfl
  · rw [List.getElem?_set_ne (fun e => h e.symm), if_neg h]
theorem und_set {S : List (Option Nat)} {p x : Nat} (hp : p < S.length) : und (S.set p (some x)) = (und S).erase p := by
  rw [und_nd.erase_eq_filter]
  unfold und
  rw [List.filter_filter, List.length_set]
  refine List.filter_congr fun q _ => ?_
  rw [getD_set hp]
  by_cases h : q = p
  · subst h; simp
  · simp [h]
theorem mem_set {S : List (Option Nat)} {p x y : Nat} (hp : p < S.length) (hn : S.getD p none = none) : some y ∈ S.set p (some x) ↔ y = x ∨ some y ∈ S := by
  rw [mem_getD, mem_getD, List.length_set]
  constructor
  · rintro ⟨q, hq, e⟩
    rw [getD_set hp] at e
    by_cases h : q = p
    · rw [if_pos h] at e; exact .inl (Option.some.inj e).symm
    · rw [if_neg h] at e; exact .inr ⟨q, hq, e⟩
  · rintro (e | ⟨q, hq, e⟩)
    · exact ⟨p, hp, by rw [getD_set hp, if_pos rfl, e]⟩
    · refine ⟨q, hq, ?_⟩
      have h : q ≠ p := fun z => by rw [z, hn] at e; cases e
      rw [getD_set hp, if_neg h, e]
theorem unu_set {S : List (Option Nat)} {p x : Nat} (hp : p < S.length) (hn : S.getD p none = none) : unu (S.set p (some x)) = (unu S).erase x := by
  rw [unu_nd.erase_eq_filter]
  unfold unu
  rw [List.filter_filter, List.length_set]
  refine List.filter_congr fun y _ => ?_
  by_cases h : y = x
  · subst h
    have : some y ∈ S.set p (some y) := (mem_set hp hn).mpr (.inl rfl)
    simp [this]
  · by_cases h2 : some y ∈ S
    · have : some y ∈ S.set p (some x) := (mem_set hp hn).mpr (.inr h2)
      simp [this, h2]
    · have : ¬ some y ∈ S.set p (some x) := fun z => ((mem_set hp hn).mp z).elim h h2
      simp [this, h2, h]
theorem SOk.set {R : List (List Nat)} {S : List (Option Nat)} {p x : Nat} (h : SOk R S) (hp : p ∈ und S) (hx : x ∈ unu S) (ht : x ∈ R.getD p []) : SOk R (S.set p (some x)) := by
  obtain ⟨hpl, hn⟩ := und_mem.mp hp
  obtain ⟨hxl, hxn⟩ := unu_mem.mp hx
  refine ⟨by rw [List.length_set]; exact h.len, fun q y e => ?_, fun q r y e1 e2 => ?_⟩
  · rw [getD_set hpl] at e
    by_cases hq : q = p
    · rw [if_pos hq] at e; cases e; rw [hq]; exact ht
    · rw [if_neg hq] at e; exact h.tie q y e
  · have lt : ∀ q y, S.getD q none = some y → q < S.length := fun q y e => by
      rcases Nat.lt_or_ge q S.length with z | z
      · exact z
      · rw [List.getD_eq_getElem?_getD, List.getElem?_eq_none z] at e; cases e
    rw [getD_set hpl] at e1 e2
    by_cases hq : q = p
    · by_cases hr : r = p
      · rw [hq, hr]
      · rw [if_pos hq] at e1; rw [if_neg hr] at e2; cases e1
        exact absurd (mem_getD.mpr ⟨r, lt r _ e2, e2⟩) hxn
    · by_cases hr : r = p
      · rw [if_neg hq] at e1; rw [if_pos hr] at e2; cases e2
        exact absurd (mem_getD.mpr ⟨q, lt q _ e1, e1⟩) hxn
      · rw [if_neg hq] at e1; rw [if_neg hr] at e2
        exact h.inj q r y e1 e2
theorem mem_deals {s : St3} {d : List Nat} : d ∈ deals s ↔ Deal s.1 d ∧ fits s.2.1 d = true := by unfold deals; rw [List.mem_filter, mem_allS]
/-- p may get x: there is such a dealing -/
theorem behind_pos {s : St3} {p x : Nat} (hR : RowsOk s.1) (hS : SOk s.1 s.2.1) (hp : p ∈ und s.2.1) (hx : x ∈ unu s.2.1) (ht : x ∈ s.1.getD p []) : 0 < behind s.1 (und s.2.1) (unu s.2.1) p x ↔ ∃ d ∈ deals s, d.getD p 0 = x := by
  obtain ⟨hpl, hn⟩ := und_mem.mp hp
  have e : behind s.1 (und s.2.1) (unu s.2.1) p x = (deals (s.1, s.2.1.set p (some x), s.2.2)).length := by
    rw [deals_count (s := (s.1, s.2.1.set p (some x), s.2.2)) hR (hS.set hp hx ht)]
    show _ = cntL s.1 (und (s.2.1.set p (some x))) (unu (s.2.1.set p (some x)))
    rw [und_set hpl, unu_set hpl hn]
    rfl
  rw [e, List.length_pos_iff_exists_mem]
  constructor
  · rintro ⟨d, hd⟩
    obtain ⟨a, b⟩ := mem_deals.mp hd
    have b := fits_iff.mp b
    refine ⟨d, mem_deals.mpr ⟨a, fits_iff.mpr fun q y hq => b q y ?_⟩, b p x ?_⟩
    · show (s.2.1.set p (some x)).getD q none = some y
      rw [getD_set hpl, if_neg (fun z => by rw [z, hn] at hq; cases hq)]; exact hq
    · show (s.2.1.set p (some x)).getD p none = some x
      rw [getD_set hpl, if_pos rfl]
  · rintro ⟨d, hd, e⟩
    obtain ⟨a, b⟩ := mem_deals.mp hd
    refine ⟨d, mem_deals.mpr ⟨a, fits_iff.mpr fun q y hq => ?_⟩⟩
    have hq : (s.2.1.set p (some x)).getD q none = some y := hq
    rw [getD_set hpl] at hq
    by_cases h : q = p
    · rw [if_pos h] at hq; cases hq; rw [h]; exact e
    · rw [if_neg h] at hq; exact fits_iff.mp b q y hq
/-! ### what a comer may get -/
theorem deal_in {s : St3} {d : List Nat} {p : Nat} (hR : RowsOk s.1) (hS : SOk s.1 s.2.1) (hd : d ∈ deals s) (hp : p ∈ und s.2.1) : d.getD p 0 ∈ unu s.2.1 := by
  obtain ⟨a, b⟩ := mem_deals.mp hd
  have := proj_ways hR hS a b
  exact ((ways_mem _ _ _ _ unu_nd).mp this).2.2.1 _ (List.mem_map.mpr ⟨p, hp, rfl⟩)
theorem opn_iff {s : St3} {p x : Nat} (hR : RowsOk s.1) (hS : SOk s.1 s.2.1) (hp : p ∈ und s.2.1) : x ∈ opn s.1 (und s.2.1) (unu s.2.1) p ↔ ∃ d ∈ deals s, d.getD p 0 = x := by
  have hpl : p < s.1.length := by have := (und_mem.mp hp).1; rwa [hS.len] at this
  unfold opn
  rw [List.mem_filter, List.mem_filter, decide_eq_true_iff, decide_eq_true_iff]
  constructor
  · rintro ⟨⟨ht, hx⟩, hb⟩
    exact (behind_pos hR hS hp hx ht).mp hb
  · rintro ⟨d, hd, e⟩
    have hx := deal_in hR hS hd hp
    rw [e] at hx
    have ht := (mem_deals.mp hd).1.tie p hpl
    rw [e] at ht
    exact ⟨⟨ht, hx⟩, (behind_pos hR hS hp hx ht).mpr ⟨d, hd, e⟩⟩
theorem opn_asc {R : List (List Nat)} {P T : List Nat} {p : Nat} (hR : RowsOk R) (hp : p < R.length) : (opn R P T p).Pairwise (· < ·) :=
  ((hR.2.2 _ (hR.row hp)).1.sublist List.filter_sublist).sublist List.filter_sublist
theorem opr_asc {R : List (List Nat)} {P T : List Nat} {x : Nat} : (opr R P T x).Pairwise (· < ·) :=
  (List.pairwise_lt_range.sublist List.filter_sublist).sublist List.filter_sublist
/-- a thing is in each dealing -/
theorem deal_has {R : List (List Nat)} {d : List Nat} {x : Nat} (hR : RowsOk R) (h : Deal R d) (hx : x < R.length) : x ∈ d := by
  by_cases hm : x ∈ d
  · exact hm
  have e := nodup_lt (n := R.length) (l := x :: d) (List.nodup_cons.mpr ⟨hm, h.nd⟩) fun y hy => by
    rcases List.mem_cons.mp hy with e | hy
    · rw [e]; exact hx
    · obtain ⟨i, hi, e⟩ := List.getElem_of_mem hy
      have := h.lt hR (p := i) (by rw [← h.len]; exact hi)
      rw [List.getD_eq_getElem?_getD, List.getElem?_eq_getElem hi] at this
      have : d[i] < R.length := this
      rwa [e] at this
  rw [List.length_cons, h.len] at e
  omega
theorem idx_iff {d : List Nat} {x k : Nat} (hn : d.Nodup) (hx : x ∈ d) : d.idxOf x = k ↔ k < d.length ∧ d.getD k 0 = x := by
  obtain ⟨h1, _⟩ := idx_at hx
  constructor
  · rintro rfl
    refine ⟨List.idxOf_lt_length_of_mem hx, ?_⟩
    rw [List.getD_eq_getElem?_getD, h1]; rfl
  · rintro ⟨hk, e⟩
    obtain ⟨a, b⟩ := List.getElem?_eq_some_iff.mp h1
    rw [List.getD_eq_getElem?_getD, List.getElem?_eq_getElem hk] at e
    have e : d[k] = x := e
    exact (List.getElem_inj hn).mp (b.trans e.symm)
theorem opr_iff {s : St3} {k x : Nat} (hR : RowsOk s.1) (hS : SOk s.1 s.2.1) (hx : x ∈ unu s.2.1) : k ∈ opr s.1 (und s.2.1) (unu s.2.1) x ↔ ∃ d ∈ deals s, d.idxOf x = k := by
  have hxl : x < s.1.length := by have := (unu_mem.mp hx).1; rwa [hS.len] at this
  unfold opr
  rw [List.mem_filter, List.mem_filter, List.mem_range, Bool.and_eq_true, decide_eq_true_iff, decide_eq_true_iff, decide_eq_true_iff]
  constructor
  · rintro ⟨⟨hk, hu, ht⟩, hb⟩
    obtain ⟨d, hd, e⟩ := (behind_pos hR hS hu hx ht).mp hb
    have hD := (mem_deals.mp hd).1
    exact ⟨d, hd, (idx_iff hD.nd (deal_has hR hD hxl)).mpr ⟨by rw [hD.len]; exact hk, e⟩⟩
  · rintro ⟨d, hd, e⟩
    obtain ⟨hD, hf⟩ := mem_deals.mp hd
    obtain ⟨hk, e⟩ := (idx_iff hD.nd (deal_has hR hD hxl)).mp e
    rw [hD.len] at hk
    have hu : k ∈ und s.2.1 := by
      refine und_mem.mpr ⟨by rw [hS.len]; exact hk, ?_⟩
      cases q : s.2.1.getD k none with
      | none => rfl
      | some y =>
        have := fits_iff.mp hf k y q
        rw [e] at this
        subst this
        exact absurd (mem_getD.mpr ⟨k, by rw [hS.len]; exact hk, q⟩) (unu_mem.mp hx).2
    have ht := hD.tie k hk
    rw [e] at ht
    exact ⟨⟨hk, hu, ht⟩, (behind_pos hR hS hu hx ht).mpr ⟨d, hd, e⟩⟩
theorem chs_ok {s : St3} {c : Bool × Nat} (hR : RowsOk s.1) (hS : SOk s.1 s.2.1) (hc : c ∈ waiting s.2.1) : ChOk (deals s) c (chs s c) := by
  have ho : Sok s := ⟨hR, hS.st hR⟩
  have hcl := ho.lt hc
  obtain ⟨b, n⟩ := c
  have hw := waiting_mem.mp hc
  refine ⟨fun d hd => by rw [(mem_deals.mp hd).1.len]; exact hcl, fun _ d hd => deal_has hR (mem_deals.mp hd).1 hcl, deals_len ho, ?_, fun k => ?_⟩
  · unfold chs
    split
    · exact opn_asc hR hcl
    · exact opr_asc
  · rw [List.mem_map]
    cases b with
    | true => exact opn_iff hR hS hw
    | false => exact opr_iff hR hS hw
/-! ### what is settled -/
theorem one_iff {ms : List Nat} {a : Nat} {L : List Nat} (hnd : ms.Nodup) (hm : ∀ k, k ∈ ms ↔ k ∈ a :: L) : decide (ms.length = 1) = oneOf (a :: L) ∧ (ms.length = 1 → ms.getD 0 0 = a) := by
  have ha : a ∈ ms := (hm a).mpr List.mem_cons_self
  have one : ms.length = 1 → ms = [a] := fun h => by
    obtain ⟨b, rfl⟩ := List.length_eq_one_iff.mp h
    rw [List.mem_singleton] at ha
    rw [ha]
  refine ⟨?_, fun h => by rw [one h]; rfl⟩
  show _ = L.all fun x => decide (x = a)
  by_cases h : ms.length = 1
  · rw [decide_eq_true h]
    refine (List.all_eq_true.mpr fun x hx => decide_eq_true ?_).symm
    have := (hm x).mpr (List.mem_cons_of_mem _ hx)
    rw [one h, List.mem_singleton] at this
    exact this
  · rw [decide_eq_false h]
    refine (Bool.eq_false_iff.mpr fun z => h ?_).symm
    have hall : ∀ k ∈ ms, k = a := fun k hk => by
      rcases List.mem_cons.mp ((hm k).mp hk) with e | hk
      · exact e
      · exact of_decide_eq_true (List.all_eq_true.mp z k hk)
    cases ms with
    | nil => cases ha
    | cons b ms =>
      cases ms with
      | nil => rfl
      | cons c ms =>
        have e1 := hall b List.mem_cons_self
        have e2 := hall c (List.mem_cons_of_mem _ List.mem_cons_self)
        rw [e1, e2] at hnd
        exact absurd hnd (by simp)
theorem known_iff {s : St3} {p : Nat} (hR : RowsOk s.1) (hS : SOk s.1 s.2.1) (hp : p < s.1.length) (hd : deals s ≠ []) : (known s.1 s.2.1 p).Nodup ∧ ∀ k, k ∈ known s.1 s.2.1 p ↔ k ∈ (deals s).map fun d => d.getD p 0 := by
  unfold known
  cases q : s.2.1.getD p none with
  | some x =>
    refine ⟨by simp, fun k => ?_⟩
    show k ∈ [x] ↔ _
    rw [List.mem_singleton, List.mem_map]
    constructor
    · rintro rfl
      obtain ⟨d, hd⟩ := List.exists_mem_of_ne_nil _ hd
      exact ⟨d, hd, fits_iff.mp (mem_deals.mp hd).2 p k q⟩
    · rintro ⟨d, hd, e⟩
      rw [← e]; exact fits_iff.mp (mem_deals.mp hd).2 p x q
  | none =>
    have hu : p ∈ und s.2.1 := und_mem.mpr ⟨by rw [hS.len]; exact hp, q⟩
    refine ⟨(opn_asc hR hp).imp fun h => Nat.ne_of_lt h, fun k => ?_⟩
    show k ∈ opn _ _ _ _ ↔ _
    rw [opn_iff hR hS hu, List.mem_map]
theorem settled_eq {s : St3} (hR : RowsOk s.1) (hS : SOk s.1 s.2.1) (hd : deals s ≠ []) : settled s.1 s.2.1 = lawSettled (deals s) s.1.length := by
  unfold settled lawSettled
  rw [hS.len]
  have key : ∀ p, p < s.1.length → decide ((known s.1 s.2.1 p).length = 1) = oneOf ((deals s).map fun d => d.getD p 0) ∧ ((known s.1 s.2.1 p).length = 1 → (known s.1 s.2.1 p).getD 0 0 = ((deals s).headD []).getD p 0) := fun p hp => by
    obtain ⟨a, b⟩ := known_iff hR hS hp hd
    cases q : deals s with
    | nil => exact absurd q hd
    | cons d0 L =>
      rw [q, List.map_cons] at b
      exact one_iff a b
  have e1 : ((List.range s.1.length).filter fun p => decide ((known s.1 s.2.1 p).length = 1)) = (List.range s.1.length).filter fun p => oneOf ((deals s).map fun d => d.getD p 0) := List.filter_congr fun p hp => (key p (List.mem_range.mp hp)).1
  rw [← e1]
  refine List.map_congr_left fun p hp => ?_
  obtain ⟨h1, h2⟩ := List.mem_filter.mp hp
  rw [(key p (List.mem_range.mp h1)).2 (of_decide_eq_true h2)]
/-! ### striking, allowing, drawing -/
theorem getD_setR {R : List (List Nat)} {p q : Nat} {r : List Nat} (hp : p < R.length) : (R.set p r).getD q [] = if q = p then r else R.getD q [] := by
  rw [List.getD_eq_getElem?_getD, List.getD_eq_getElem?_getD]
  by_cases h : q = p
  · subst h
    rw [List.getElem?_set_self hp, if_pos rfl]; rfl
  · rw [List.getElem?_set_ne (fun e => h e.symm), if_neg h]
theorem SOk.cut {R : List (List Nat)} {S : List (Option Nat)} {p x : Nat} (h : SOk R S) (hp : p < R.length) (hx : S.getD p none ≠ some x) : SOk (R.set p (cutR (R.getD p []) x)) S := by
  refine ⟨by rw [List.length_set]; exact h.len, fun q y e => ?_, h.inj⟩
  rw [getD_setR hp]
  by_cases hq : q = p
  · rw [if_pos hq]
    rw [hq] at e
    unfold cutR
    refine List.mem_filter.mpr ⟨h.tie p y e, ?_⟩
    have : y ≠ x := fun z => hx (by rw [e, z])
    simp [this]
  · rw [if_neg hq]; exact h.tie q y e
theorem SOk.ins {R : List (List Nat)} {S : List (Option Nat)} {p x : Nat} (h : SOk R S) (hp : p < R.length) : SOk (R.set p (insR (R.getD p []) x)) S := by
  refine ⟨by rw [List.length_set]; exact h.len, fun q y e => ?_, h.inj⟩
  rw [getD_setR hp]
  by_cases hq : q = p
  · rw [if_pos hq]
    rw [hq] at e
    exact ins_mem.mpr (.inr (h.tie p y e))
  · rw [if_neg hq]; exact h.tie q y e
theorem strike_eq {s : St3} {p x : Nat} (hR : RowsOk s.1) (hS : SOk s.1 s.2.1) (hp : p < s.1.length) : strikeR s p x = (lawStrike s p x).map fun R => (R, s.2) := by
  unfold strikeR lawStrike
  by_cases h : x ∉ s.1.getD p [] ∨ s.2.1.getD p none = some x
  · rw [if_pos h, if_pos h]; rfl
  · rw [if_neg h, if_neg h]
    have hx : s.2.1.getD p none ≠ some x := fun z => h (.inr z)
    rw [← deals_count (s := (s.1.set p (cutR (s.1.getD p []) x), s.2)) (hR.cut hp) (hS.cut hp hx)]
    by_cases h2 : (deals (s.1.set p (cutR (s.1.getD p []) x), s.2)).length = 0
    · rw [if_pos h2, if_pos h2]; rfl
    · rw [if_neg h2, if_neg h2]; rfl
/-- a state that stands -/
structure Good (s : St3) : Prop where
  rows : RowsOk s.1
  st : SOk s.1 s.2.1
  any : deals s ≠ []
theorem Good.ok {s : St3} (h : Good s) : Sok s := ⟨h.rows, h.st.st h.rows⟩
theorem Good.deal {s : St3} (h : Good s) : ∃ d, Deal s.1 d := by
  obtain ⟨d, hd⟩ := List.exists_mem_of_ne_nil _ h.any
  exact ⟨d, (mem_deals.mp hd).1⟩
theorem Good.strike {s : St3} {p x : Nat} {R : List (List Nat)} (h : Good s) (hp : p < s.1.length) (e : lawStrike s p x = some R) : Good (R, s.2) := by
  unfold lawStrike at e
  by_cases h1 : x ∉ s.1.getD p [] ∨ s.2.1.getD p none = some x
  · rw [if_pos h1] at e; cases e
  · rw [if_neg h1] at e
    by_cases h2 : (deals (s.1.set p (cutR (s.1.getD p []) x), s.2)).length = 0
    · rw [if_pos h2] at e; cases e
    · rw [if_neg h2] at e
      cases e
      exact ⟨h.rows.cut hp, h.st.cut hp fun z => h1 (.inr z), fun z => h2 (by rw [z]; rfl)⟩
theorem Good.allow {s : St3} {p x : Nat} (h : Good s) (hp : p < s.1.length) (hx : x < s.1.length) : Good (s.1.set p (insR (s.1.getD p []) x), s.2) := by
  refine ⟨h.rows.ins hp hx, h.st.ins hp, fun z => ?_⟩
  obtain ⟨d, hd⟩ := List.exists_mem_of_ne_nil _ h.any
  obtain ⟨a, b⟩ := mem_deals.mp hd
  have : d ∈ deals (s.1.set p (insR (s.1.getD p []) x), s.2) := mem_deals.mpr ⟨⟨by rw [List.length_set]; exact a.len, a.nd, fun q hq => by
    have hq : q < (s.1.set p (insR (s.1.getD p []) x)).length := hq
    rw [List.length_set] at hq
    show _ ∈ (s.1.set p (insR (s.1.getD p []) x)).getD q []
    rw [getD_setR hp]
    by_cases e : q = p
    · rw [if_pos e, e]; exact ins_mem.mpr (.inr (a.tie p hp))
    · rw [if_neg e]; exact a.tie q hq⟩, b⟩
  rw [z] at this
  cases this
theorem Good.draw {s : St3} {c : Bool × Nat} {k : Nat} (h : Good s) (hc : c ∈ waiting s.2.1) (hk : k ∈ chs s c) : Good (drawS s c k) := by
  have C := chs_ok h.rows h.st hc
  obtain ⟨d, hd, e⟩ := List.mem_map.mp ((C.mem k).mp hk)
  have hD := (mem_deals.mp hd).1
  have hf := fits_iff.mp (mem_deals.mp hd).2
  obtain ⟨b, n⟩ := c
  have hw := waiting_mem.mp hc
  have key : ∃ p x, pairOf (b, n) k = (p, x) ∧ p ∈ und s.2.1 ∧ x ∈ unu s.2.1 ∧ d.getD p 0 = x ∧ p < s.1.length := by
    cases b with
    | true =>
      have hu : n ∈ und s.2.1 := hw
      have e : d.getD n 0 = k := e
      have hx := deal_in h.rows h.st hd hu
      rw [e] at hx
      exact ⟨n, k, rfl, hu, hx, e, by have := (und_mem.mp hu).1; rwa [h.st.len] at this⟩
    | false =>
      have hu : n ∈ unu s.2.1 := hw
      have hnl : n < s.1.length := by have := (unu_mem.mp hu).1; rwa [h.st.len] at this
      have e : d.idxOf n = k := e
      obtain ⟨q1, q2⟩ := (idx_iff hD.nd (deal_has h.rows hD hnl)).mp e
      rw [hD.len] at q1
      refine ⟨k, n, rfl, und_mem.mpr ⟨by rw [h.st.len]; exact q1, ?_⟩, hu, q2, q1⟩
      cases q : s.2.1.getD k none with
      | none => rfl
      | some y =>
        have := hf k y q
        rw [q2] at this
        subst this
        exact absurd (mem_getD.mpr ⟨k, by rw [h.st.len]; exact q1, q⟩) (unu_mem.mp hu).2
  obtain ⟨p, x, ep, hp, hx, e, hpl⟩ := key
  have ht := hD.tie p hpl
  rw [e] at ht
  have hs := h.st.set hp hx ht
  have es : drawS s (b, n) k = (s.1, s.2.1.set p (some x), s.2.2 ++ [(p, x)]) := by unfold drawS; rw [ep]
  rw [es]
  refine ⟨h.rows, hs, fun z => ?_⟩
  obtain ⟨hpl2, hn⟩ := und_mem.mp hp
  have : d ∈ deals (s.1, s.2.1.set p (some x), s.2.2 ++ [(p, x)]) := mem_deals.mpr ⟨hD, fits_iff.mpr fun q y hq => by
    have hq : (s.2.1.set p (some x)).getD q none = some y := hq
    rw [getD_set hpl2] at hq
    by_cases hqp : q = p
    · rw [if_pos hqp] at hq; cases hq; rw [hqp]; exact e
    · rw [if_neg hqp] at hq; exact hf q y hq⟩
  rw [z] at this
  cases this
theorem Good.start {R : List (List Nat)} {d : List Nat} (hR : RowsOk R) (hd : Deal R d) : Good (st0 R) := by
  have nn : ∀ p, (List.replicate R.length (none : Option Nat)).getD p none = none := fun p => by
    rw [List.getD_eq_getElem?_getD, List.getElem?_replicate]
    split <;> rfl
  refine ⟨hR, ⟨by show (List.replicate R.length none).length = _; rw [List.length_replicate]; rfl, fun p x e => ?_, fun p q x e => ?_⟩, fun z => ?_⟩
  · have e : (List.replicate R.length none).getD p none = some x := e
    rw [nn] at e; cases e
  · have e : (List.replicate R.length none).getD p none = some x := e
    rw [nn] at e; cases e
  · have : d ∈ deals (st0 R) := mem_deals.mpr ⟨hd, fits_iff.mpr fun p x e => by
      have e : (List.replicate R.length none).getD p none = some x := e
      rw [nn] at e; cases e⟩
    rw [z] at this
    cases this
end Fo
set_option Elab.async false
set_option linter.all false
set_option maxRecDepth 100000
/-! == and != of tables, of dicts; deals; what the seeing asks. -/
namespace Fo
open PySem PySem.Spec PyProof.Rows L2
section
variable {P : Program} {w : World} {K : PySem.W.Frag} {mg : Str → Option Value} {base : Heap} {W : Wd} {G : Ctx}
/-- a table that is a Table -/
abbrev tTabT (T : Tp K mg) (R : List (List Nat)) : Ty := Ty.ins T.Table.C (rTab R) rTab.mo
theorem EV.tableT {T : Tp K mg} {E : XK} {ta : TE} {R : List (List Nat)} (h : EV W G ta (tRows R)) (hR : RowsOk R) : EV W G (tMake T.Table.C (iSp T.Table.C ar_rows RowsOk rTab) [] E (tCons ta tNil)) (tTabT T R) :=
  EV.make R (EVA.cons h EVA.nil) hR rfl fun H a dx fs e ⟨H0, x, r⟩ => ⟨a, dx, fs, rfl, e, r.mo x⟩
abbrev rTeq (T : Tp K mg) (neg : Bool) : R2 := fun x y H Q => rOwnEq K T.Table.C neg (sp_teq T) x y H Q ∨ rOwnEq K T.RawTable.C neg (sp_teq T) x y H Q
theorem RV.teq {T : Tp K mg} {neg : Bool} {R R' : List (List Nat)} : RV W (rTeq T neg) (tTab T R) (tTabT T R') (tBl (if neg then !decide (R = R') else decide (R = R'))) := ⟨fun {x y H Q} ok px py k => by
  obtain ⟨b, dy, gs, rfl, eb, rb⟩ := id py
  have go : ∀ (C : Addr) (a dx : Addr) (fs : List (Str × V)), (tTab T R).p (W.v H) (.ref a) → W.v H a = some (.ins C dx fs) → PySem.W.notFirst K C (.ref T.Table.C) = true → rOwnEq K C neg (sp_teq T) (.ref a) (.ref b) H Q := fun C a dx fs pa ea hn =>
    ⟨a, b, dx, dy, fs, gs, T.Table.C, rfl, rfl, (vis_some ea).2, (vis_some eb).2, hn, (R, R'), W, trivial, ok, ⟨pa, .inl py, trivial⟩, fun v H' s pv => ⟨decide (R = R'), pv, k _ H' s rfl⟩⟩
  rcases id px with ⟨a, dx, fs, rfl, ea, _⟩ | ⟨a, dx, fs, rfl, ea, _⟩
  · exact .inl (go _ a dx fs px ea T.nf_Table)
  · exact .inr (go _ a dx fs px ea T.nf_RawTable)⟩
/-- dicts that say the same are not unlike -/
theorem RV.neDic {L : List (Nat × Nat)} {a : Addr} (hnd : (L.map (·.1)).Nodup) (ha : ∀ H, W.ok H → H a = some (.dK (kvN L))) : RV W rNeDA (Ty.is (.ref a)) (Ty.dic L) (tBl false) := ⟨fun {x y H Q} ok px py k => by
  cases px
  obtain ⟨b, rfl, eb⟩ := py
  refine ⟨a, b, kvN L, kvN L, rfl, rfl, ha H ok, (vis_some eb).2, rfl, fun p hp => ?_, k _ H ok.st rfl⟩
  obtain ⟨q, hq, rfl⟩ := List.mem_map.mp hp
  refine ⟨?_, rfl⟩
  show valV (kvN L) (Sum.inl (q.1 : Int)) = some (nV q.2)
  rw [valV_kvN]
  obtain ⟨i, hi, e⟩ := List.getElem_of_mem hq
  have := lookup_mem hnd hi
  rw [e] at this
  rw [this]; rfl⟩
end
end Fo
set_option Elab.async false
set_option linter.all false
set_option maxRecDepth 100000
/-! A hidden thing, seen for a while. -/
namespace Fo
open PySem PySem.Spec PyProof.Rows L2
def Wd.see (W : Wd) (D : Addr) (o : HO) : Wd where
  M := W.M
  Φ := fun h H => W.Φ (vis [D] h) H ∧ h D = some o
  al := fun hh ha => W.al hh.1 ha
  mo := fun {h h' H H'} hh x k => ⟨W.mo hh.1 x.vis k, x.at hh.2 trivial⟩
section
variable {W : Wd} {D : Addr} {o : HO} {H H' : Hp} {G : Ctx} {σ : L2.St}
theorem vis_vis {M : List Addr} {H : Hp} : vis [D] (vis M H) = vis (D :: M) H := by
  funext a
  by_cases h : a = D
  · subst h; rw [vis_in (by simp), vis_in (by simp)]
  · rw [vis_eq (by simp [h])]
    by_cases h2 : a ∈ M
    · rw [vis_in h2, vis_in (by simp [h2])]
    · rw [vis_eq h2, vis_eq (by simp [h, h2])]
theorem Wd.ok.see (ok : (W.own D o trivial).ok H) (hD : D ∉ W.M) : (W.see D o).ok H := by
  refine ⟨?_, ?_⟩
  · show W.Φ (vis [D] (vis W.M H)) H
    rw [vis_vis]; exact ok.1
  · show vis W.M H D = some o
    rw [vis_eq hD]; exact ok.at
theorem Wd.ok.unsee (ok : (W.see D o).ok H) : (W.own D o trivial).ok H := by
  refine ⟨?_, (vis_some ok.2).2⟩
  have := ok.1
  show W.Φ (vis (D :: W.M) H) H
  rw [← vis_vis]; exact this
theorem see_xt (x : Xt ((W.see D o).v H) ((W.see D o).v H')) : Xt ((W.own D o trivial).v H) ((W.own D o trivial).v H') := by
  have h : Xt (vis [D] (vis W.M H)) (vis [D] (vis W.M H')) := x.vis
  rw [vis_vis, vis_vis] at h
  exact h
theorem see_sub : Xt ((W.own D o trivial).v H) ((W.see D o).v H) := vis_drop
theorem Has.see {A : List Addr} {C : Hp → Hp → Prop} (cl : Cl A C) (c : Has W A C) : Has (W.see D o) A C := ⟨c.mem, fun h => cl.mo (c.get h.1) (vis_sub _ _) fun _ _ => rfl⟩
theorem see_test {tt : TT} {b : Bool} {Q : Bool → Hp → Prop} (h : EVT (W.see D o) G tt b) (hD : D ∉ W.M) (ok : (W.own D o trivial).ok H) (fr : Fr ((W.see D o).v H) G σ) (k : ∀ H', (W.own D o trivial).ok H' → Xt ((W.own D o trivial).v H) ((W.own D o trivial).v H') → Xt ((W.see D o).v H) ((W.see D o).v H') → Q b H') : tt σ H Q :=
  h.run (ok.see hD) fr fun H' s => k H' s.2.unsee (see_xt s.1) s.1
/-- a frame, and one slot more -/
theorem Fr.one {T : Ty} {i : Nat} {v : V} (fr : Fr ((W.own D o trivial).v H) G σ) (hv : T.p ((W.see D o).v H) v) : Fr ((W.see D o).v H) (G.set i (some T)) (σ.set i (some v)) := (fr.mo see_sub).set hv i
theorem see_lst {K : PySem.W.Frag} {ts : List Ty} {acc : List V} (hD : D ∉ W.M) (ok : (W.own D (.lst acc) trivial).ok H) (al : Al ((W.own D (.lst acc) trivial).v H) ts acc) : (Ty.lst ts).p ((W.see D (.lst acc)).v H) (.ref D) :=
  ⟨D, acc, rfl, by show vis W.M H D = _; rw [vis_eq hD]; exact ok.at, al.mo see_sub⟩
theorem see_dic {L : List (Nat × Nat)} (hD : D ∉ W.M) (ok : (W.own D (.dK (kvN L)) trivial).ok H) : (Ty.dic L).p ((W.see D (.dK (kvN L))).v H) (.ref D) :=
  ⟨D, rfl, by show vis W.M H D = _; rw [vis_eq hD]; exact ok.at⟩
end
section
variable {K : PySem.W.Frag} {W : Wd} {L : List (Nat × Nat)}
theorem hasTy_dic : HasTy K (Ty.dic L) "dict" := fun _ _ ⟨a, e0, e⟩ => by subst e0; exact .base (.dK e)
theorem RC.isi_dd : RC W (rIsi K) [Ty.dic L, Ty.is (.ty "dict")] (tBl true) := RC.isi hasTy_dic (by decide +kernel)
theorem RV.neDic2 (hnd : (L.map (·.1)).Nodup) : RV W rNeDA (Ty.dic L) (Ty.dic L) (tBl false) := ⟨fun {x y H Q} ok px py k => by
  obtain ⟨a, rfl, ea⟩ := px
  obtain ⟨b, rfl, eb⟩ := py
  refine ⟨a, b, kvN L, kvN L, rfl, rfl, (vis_some ea).2, (vis_some eb).2, rfl, fun p hp => ?_, k _ H ok.st rfl⟩
  obtain ⟨q, hq, rfl⟩ := List.mem_map.mp hp
  refine ⟨?_, rfl⟩
  show valV (kvN L) (Sum.inl (q.1 : Int)) = some (nV q.2)
  rw [valV_kvN]
  obtain ⟨i, hi, e⟩ := List.getElem_of_mem hq
  have := lookup_mem hnd hi
  rw [e] at this
  rw [this]; rfl⟩
theorem RV.neLst {ms : List Nat} : RV W (rNeD K) (Ty.lst (ms.map tN)) (Ty.lst (ms.map tN)) (tBl false) := by
  have h := RV.neD (W := W) (K := K) (T := Ty.lst (ms.map tN)) (U := Ty.lst (ms.map tN)) Dm.N.lst (by decide) (a := ms) (b := ms) (isD_lstM fun _ => isD_N) (isD_lstM fun _ => isD_N)
  exact ⟨fun ok px py k => h.run ok px py fun v H' s p => k v H' s (by rw [show v = V.bl (!decide (ms = ms)) from p]; simp; rfl)⟩
end
end Fo
set_option Elab.async false
set_option linter.all false
set_option maxRecDepth 100000
/-! What is not known ahead; loops that change the world; lists that stay hidden, with what they hold. -/
namespace Fo
open PySem PySem.Spec PyProof.Rows L2
section
variable {K : PySem.W.Frag} {W : Wd} {G : Ctx} {te ta tb : TE} {T U S : Ty} {t u : TT} {p q r : Bool → Prop} {ts us : List Ty} {tr : TA}
/-! ### unknown values, unknown tests -/
theorem RV.pL {β : Type} {p : β → Prop} {f : β → Ty} {r : R2} (h : ∀ b, p b → RV W r (f b) U S) : RV W r (Ty.exP p f) U S := ⟨fun ok ⟨b, hb, px⟩ py k => (h b hb).run ok px py k⟩
theorem EV.toE {β : Type} {p : β → Prop} {f : β → Ty} (b : β) (h : EV W G te (f b)) (hb : p b) : EV W G te (Ty.exP p f) := h.to fun H v q => ⟨b, hb, q⟩
abbrev tAB : Ty := Ty.exP (fun _ : Bool => True) tBl
structure EVTP (W : Wd) (G : Ctx) (tt : TT) (p : Bool → Prop) : Prop where
  run : ∀ {σ : L2.St} {H : Hp} {Q : Bool → Hp → Prop}, W.ok H → Fr (W.v H) G σ → (∀ b H', p b → W.st H H' → Q b H') → tt σ H Q
theorem EVTP.of {b : Bool} (h : EVT W G t b) : EVTP W G t (fun c => c = b) := ⟨fun ok fr k => h.run ok fr fun H' s => k _ H' rfl s⟩
theorem EVTP.to (h : EVTP W G t p) (e : ∀ b, p b → q b) : EVTP W G t q := ⟨fun ok fr k => h.run ok fr fun b H' hb s => k b H' (e b hb) s⟩
theorem EVTP.B (h : EV W G te tAB) : EVTP W G (tB te) (fun _ => True) := ⟨fun ok fr k => h.run ok fr fun v H' s ⟨b, _, e⟩ => ⟨b, e, k b H' trivial s⟩⟩
theorem EVTP.or (h1 : EVTP W G t p) (h2 : EVTP W G u q) (e1 : p true → r true) (e2 : ∀ b, p false → q b → r b) : EVTP W G (tOr t u) r := ⟨fun ok fr k => h1.run ok fr fun b H1 hb s1 => by
  cases b with
  | false => exact h2.run s1.2 (fr.mo s1.1) fun c H2 hc s2 => k c H2 (e2 c hb hc) (s1.trans s2)
  | true => exact k true H1 (e1 hb) s1⟩
theorem EVTP.and (h1 : EVTP W G t p) (h2 : EVTP W G u q) (e1 : p false → r false) (e2 : ∀ b, p true → q b → r b) : EVTP W G (tAnd t u) r := ⟨fun ok fr k => h1.run ok fr fun b H1 hb s1 => by
  cases b with
  | true => exact h2.run s1.2 (fr.mo s1.1) fun c H2 hc s2 => k c H2 (e2 c hb hc) (s1.trans s2)
  | false => exact k false H1 (e1 hb) s1⟩
/-- a comprehension whose test is not known -/
theorem EV.lcN {wi : TI} {g : TG} {tt : TT} {vs : List Nat} {α : Type} (L : List α) (X : α → Ty) (must : α → Bool) (T : α → Ty) (u : α → Ctx → Ctx)
    (hi : EVI W G wi (L.map X)) (hg : ∀ a ∈ L, GT g (X a) (u a) vs) (ht : ∀ (D : Addr) (o : HO), D ∉ W.M → ∀ a ∈ L, EVTP (W.own D o trivial) (u a (wipeC G vs)) tt (fun b => must a = true → b = true)) (he : ∀ (D : Addr) (o : HO), D ∉ W.M → ∀ a ∈ L, EV (W.own D o trivial) (u a (wipeC G vs)) te (T a))
    (hl : L.length ≤ 999) : EV W G (tLc wi g tt te vs) (Ty.exP (fun r : List α => r.Sublist L ∧ ∀ a ∈ L, must a = true → a ∈ r) fun r => Ty.lst (r.map T)) := ⟨fun {σ H0 Q} ok fr k => by
  refine run_lcM (F := fun _ : Unit => W) (s0 := ()) (fun _ _ => rfl) L X u (fun i _ ts => ∃ r : List α, ts = r.map T ∧ r.Sublist (L.take i) ∧ ∀ a ∈ L.take i, must a = true → a ∈ r) hi hg ⟨[], rfl, List.nil_sublist _, fun a ha => by simp at ha⟩ hl (fun i s ts ⟨r, e, h, _⟩ => by
    rw [e, List.length_map]
    have := h.length_le
    rw [List.length_take] at this
    omega) (fun D acc i a s ts σ H N hD ha hj okH frH kT kF => ?_) ok fr fun v H' s ts hj ok' x pv => ?_
  · obtain ⟨r, e, hs, hm⟩ := hj
    have hmem : a ∈ L := List.mem_of_getElem? ha
    have et : L.take (i + 1) = L.take i ++ [a] := by rw [List.take_succ, ha]; rfl
    refine (ht D _ hD a hmem).run okH frH fun b H3 hb s3 => ?_
    cases b with
    | true =>
      rw [if_pos rfl]
      refine (he D _ hD a hmem).run s3.2 (frH.mo s3.1) fun z H4 s4 pz => kT z H4 () (T a) ⟨r ++ [a], by rw [List.map_append, e]; rfl, by rw [et]; exact hs.append (List.Sublist.refl _), fun c hc hmc => ?_⟩ s4.2 (s3.trans s4).1 pz
      rw [et] at hc
      rcases List.mem_append.mp hc with hc | hc
      · exact List.mem_append_left _ (hm c hc hmc)
      · exact List.mem_append_right _ hc
    | false =>
      rw [if_neg Bool.false_ne_true]
      refine kF H3 () ⟨r, e, by rw [et]; exact hs.trans (List.sublist_append_left _ _), fun c hc hmc => ?_⟩ s3.2 s3.1
      rw [et] at hc
      rcases List.mem_append.mp hc with hc | hc
      · exact hm c hc hmc
      · rw [List.mem_singleton] at hc
        subst hc
        exact absurd (hb hmc) Bool.false_ne_true
  · obtain ⟨r, rfl, hs, hm⟩ := hj
    rw [List.take_of_length_le (Nat.le_refl _)] at hs hm
    exact k v H' ⟨x, ok'⟩ ⟨r, ⟨hs, hm⟩, pv⟩⟩
theorem al_exP {α β : Type} {H : Hp} {P : α → β → Prop} {f : β → Ty} : ∀ {L : List α} {vs : List V}, Al H (L.map fun a => Ty.exP (P a) f) vs → ∃ bs : List β, bs.length = L.length ∧ (∀ (i : Nat) (a : α) (b : β), L[i]? = some a → bs[i]? = some b → P a b) ∧ Al H (bs.map f) vs
  | [], [], _ => ⟨[], rfl, fun i a b h => by simp at h, trivial⟩
  | a :: L, v :: vs, h => by
    obtain ⟨⟨b, hb, pb⟩, h2⟩ := h
    obtain ⟨bs, e1, e2, e3⟩ := al_exP h2
    refine ⟨b :: bs, by rw [List.length_cons, List.length_cons, e1], fun i a' b' ha hb' => ?_, pb, e3⟩
    cases i with
    | zero =>
      simp at ha hb'
      rw [← ha, ← hb']; exact hb
    | succ i => exact e2 i a' b' (by simpa using ha) (by simpa using hb')
  | [], _ :: _, h => h.elim
  | _ :: _, [], h => h.elim
/-! ### lists that stay hidden -/
theorem EVN.cat (h : EV W G ta (Ty.lst ts)) (h' : EV W G tb (Ty.lst us)) (hl : ts.length + us.length ≤ 1000) : EVN W G (tOp rCat ta tb) (ts ++ us) := ⟨fun ok fr k => h.run ok fr fun x H1 s1 px => h'.run s1.2 (fr.mo s1.1) fun y H2 s2 py => by
  obtain ⟨a, vs, rfl, e1, al⟩ := (Ty.lst ts).mo s2.1 px
  obtain ⟨b, ws, rfl, e2, bl⟩ := py
  refine ⟨a, b, vs, ws, rfl, rfl, (vis_some e1).2, (vis_some e2).2, szl (by rw [← al.len, ← bl.len]; exact hl), fun p hp => ?_⟩
  have hv : (W.own p (.lst (vs ++ ws)) trivial).v (upd H2 p (.lst (vs ++ ws))) = W.v H2 := own_v s2.2 hp
  refine k p _ _ (s2.2.nM hp) (s2.2.own hp) ?_ ?_
  · rw [hv]; exact (s1.trans s2).1
  · rw [hv]; exact al.app bl⟩
theorem EVN.nil : EVN W G (tLst tNil) [] := ⟨fun ok fr k => ⟨Nat.zero_le _, fun p hp => k p [] _ (ok.nM hp) (ok.own hp) (by rw [own_v ok hp]; exact Xt.refl _) trivial⟩⟩
def LsAt (D : Addr) (ts : List Ty) (h H : Hp) : Prop := ∃ acc, H D = some (.lst acc) ∧ Al h ts acc
theorem LsAt.cl {D : Addr} {ts : List Ty} : Cl [D] (LsAt D ts) where
  al := fun {h H x} ⟨acc, e, _⟩ hx => by rw [List.mem_singleton.mp hx]; exact ⟨_, e⟩
  mo := fun {h h' H H'} ⟨acc, e, al⟩ x k => ⟨acc, by rw [k D (by simp)]; exact e, al.mo x⟩
abbrev Wd.ls (W : Wd) (D : Addr) (ts : List Ty) : Wd := W.cell [D] (LsAt D ts) LsAt.cl
abbrev HasL (D : Addr) (ts : List Ty) (W : Wd) : Prop := Has W [D] (LsAt D ts)
theorem HasL.top {D : Addr} : HasL D ts (W.ls D ts) := ⟨fun x hx => List.mem_append_left _ hx, fun h => h.2⟩
theorem Wd.ok.ls {D : Addr} {acc : List V} {H : Hp} (ok : (W.own D (.lst acc) trivial).ok H) (al : Al ((W.own D (.lst acc) trivial).v H) ts acc) : (W.ls D ts).ok H := ⟨ok.1, acc, ok.2, al⟩
theorem ls_sub {D : Addr} {H : Hp} : Xt ((W.ls D ts).v H) (W.v H) := vis_drop
theorem Wd.ok.unls {D : Addr} {H : Hp} (ok : (W.ls D ts).ok H) (hD : D ∉ W.M) : W.ok H ∧ (Ty.lst ts).p (W.v H) (.ref D) := by
  obtain ⟨h1, acc, e, al⟩ := ok
  refine ⟨W.mo h1 vis_drop fun _ _ => rfl, D, acc, rfl, ?_, Al.mo vis_drop al⟩
  show vis W.M H D = _
  rw [vis_eq hD]; exact e
theorem Wd.ok.lsPut {D : Addr} {H : Hp} {acc : List V} {us : List Ty} (ok : (W.ls D ts).ok H) (hD : D ∉ W.M) (al : Al ((W.ls D ts).v H) us acc) : (W.ls D us).ok (upd H D (.lst acc)) ∧ (W.ls D us).v (upd H D (.lst acc)) = (W.ls D ts).v H := by
  have e : (W.ls D us).v (upd H D (.lst acc)) = (W.ls D ts).v H := vis_upd_in (List.mem_append_left _ (by simp))
  refine ⟨⟨?_, acc, upd_same, ?_⟩, e⟩
  · show W.Φ ((W.ls D us).v (upd H D (.lst acc))) _
    rw [e]
    exact W.mo ok.1 (Xt.refl _) fun a ha => upd_ne fun z => hD (by rw [← z]; exact ha)
  · show Al ((W.ls D us).v (upd H D (.lst acc))) us acc
    rw [e]; exact al
theorem EV.ixH {D : Addr} {i : Int} {j : Nat} (c : HasL D ts W) (ha : EV W G ta (Ty.is (.ref D))) (hb : EV W G tb (tInt i)) (e : i = (j : Int)) (h : ts[j]? = some T) : EV W G (tOp (rIxL K) ta tb) T := ⟨fun ok fr k =>
  ha.run ok fr fun x H1 s1 p1 => hb.run s1.2 (fr.mo s1.1) fun y H2 s2 p2 => by
    cases p1; cases p2
    obtain ⟨acc, e1, al⟩ := c.at s2.2
    obtain ⟨v, ev, pv⟩ := al.get h
    exact ⟨D, acc, i, v, rfl, rfl, SqL.of e1, by rw [e]; exact atI_nat ev, k v H2 (s1.trans s2) pv⟩⟩
theorem Al.set {H : Hp} {v : V} (pv : T.p H v) : ∀ {ts : List Ty} {vs : List V} (i : Nat), Al H ts vs → Al H (ts.set i T) (vs.set i v)
  | [], [], _, _ => trivial
  | t :: ts, w :: vs, 0, h => ⟨pv, h.2⟩
  | t :: ts, w :: vs, i + 1, h => ⟨h.1, Al.set pv i h.2⟩
  | [], _ :: _, _, h => h.elim
  | _ :: _, [], _, h => h.elim
end
section
variable {K : PySem.W.Frag} {W : Wd} {G : Ctx} {te tv ti : TE} {T : Ty} {t u : TS} {tt : TT} {σ : L2.St} {H : Hp} {D : Ends} {b : Bool} {ts : List Ty} {ta : TA}
/-- l[i] = e, l hidden -/
theorem run_setH {L : Addr} {i j : Nat} (hL : L ∉ W.M) (ok : (W.ls L ts).ok H) (fr : Fr ((W.ls L ts).v H) G σ) (hj : G[j]? = some (some (Ty.is (.ref L)))) (hv : EV (W.ls L ts) G tv T) (hi : EV (W.ls L ts) G ti (tN i)) (hil : i < ts.length)
    (k : ∀ H', (W.ls L (ts.set i T)).ok H' → Xt ((W.ls L ts).v H) ((W.ls L (ts.set i T)).v H') → Fr ((W.ls L (ts.set i T)).v H') G σ → D.nx σ H') : tAsg tv (gSub (tVar j) ti rSetL) D σ H :=
  hv.run ok fr fun z H1 s1 pz => (EV.var (W := W.ls L ts) hj).run s1.2 (fr.mo s1.1) fun o H2 s2 po => hi.run s2.2 (fr.mo (s1.trans s2).1) fun y H3 s3 py => by
    cases po; cases py
    have s := (s1.trans s2).trans s3
    obtain ⟨h1, acc, e, al⟩ := id s3.2
    obtain ⟨ok4, v4⟩ := s3.2.lsPut hL (Al.set (T := T) (T.mo (s2.trans s3).1 pz) i al)
    refine ⟨L, acc, (i : Int), i, rfl, rfl, e, ?_, k _ ok4 ?_ ?_⟩
    · have : i < acc.length := by rw [← al.len]; exact hil
      unfold ixN
      rw [if_pos (by omega), if_pos (by omega), Int.toNat_natCast]
    · rw [v4]; exact s.1
    · rw [v4]; exact fr.mo s.1
theorem run_asgN {i : Nat} (h : EVN W G te ts) (ok : W.ok H) (fr : Fr (W.v H) G σ) (k : ∀ L H', L ∉ W.M → (W.ls L ts).ok H' → Xt (W.v H) ((W.ls L ts).v H') → Fr ((W.ls L ts).v H') (G.set i (some (Ty.is (.ref L)))) (σ.set i (some (.ref L))) → u D (σ.set i (some (.ref L))) H') : tSeq (tAsg te (gName i)) u D σ H :=
  h.run ok fr fun L acc H' hL ok' x al => k L H' hL (ok'.ls al) x ((fr.mo x).set (T := Ty.is (.ref L)) rfl i)
theorem run_asgO {i : Nat} (h : EVN W G te ts) (ok : W.ok H) (fr : Fr (W.v H) G σ) (k : ∀ L acc H', L ∉ W.M → (W.own L (.lst acc) trivial).ok H' → Xt (W.v H) ((W.own L (.lst acc) trivial).v H') → Al ((W.own L (.lst acc) trivial).v H') ts acc → Fr ((W.own L (.lst acc) trivial).v H') (G.set i (some (Ty.is (.ref L)))) (σ.set i (some (.ref L))) → u D (σ.set i (some (.ref L))) H') : tSeq (tAsg te (gName i)) u D σ H :=
  h.run ok fr fun L acc H' hL ok' x al => k L acc H' hL ok' x al ((fr.mo x).set (T := Ty.is (.ref L)) rfl i)
theorem run_asgD {i : Nat} {Z : List (Nat × Nat)} (h : EVD W G te Z) (ok : W.ok H) (fr : Fr (W.v H) G σ) (k : ∀ L H', L ∉ W.M → (W.own L (.dK (kvN Z)) trivial).ok H' → Xt (W.v H) ((W.own L (.dK (kvN Z)) trivial).v H') → Fr ((W.own L (.dK (kvN Z)) trivial).v H') (G.set i (some (Ty.is (.ref L)))) (σ.set i (some (.ref L))) → u D (σ.set i (some (.ref L))) H') : tSeq (tAsg te (gName i)) u D σ H :=
  h.run ok fr fun L H' hL ok' x => k L H' hL ok' x ((fr.mo x).set (T := Ty.is (.ref L)) rfl i)
theorem run_asgE {β : Type} {p : β → Prop} {f : β → Ty} {i : Nat} (h : EV W G te (Ty.exP p f)) (ok : W.ok H) (fr : Fr (W.v H) G σ) (k : ∀ b v H', p b → W.st H H' → (f b).p (W.v H') v → Fr (W.v H') (G.set i (some (f b))) (σ.set i (some v)) → u D (σ.set i (some v)) H') : tSeq (tAsg te (gName i)) u D σ H :=
  h.run ok fr fun v H' s ⟨b, hb, pb⟩ => k b v H' hb s pb ((fr.mo s.1).set pb i)
theorem run_call {sp : Sp} {E : XK} {Q : VK} (h : EVA W G ta ts) (ok : W.ok H) (fr : Fr (W.v H) G σ) (k : ∀ vs H', W.st H H' → Al (W.v H') ts vs → Fr (W.v H') G σ → sp vs H' Q E) : tCall sp [] E ta σ H Q :=
  h.run ok fr fun vs H' s al => by
    rw [List.append_nil]
    exact k vs H' s al (fr.mo s.1)
theorem run_par3 {i j l : Nat} {T1 T2 T3 : Ty} (h : EVA W G ta [T1, T2, T3]) (ok : W.ok H) (fr : Fr (W.v H) G σ) (k : ∀ σ' H', W.st H H' → Fr (W.v H') (((G.set i (some T1)).set j (some T2)).set l (some T3)) σ' → u D σ' H') : tSeq (tPar3 i j l ta) u D σ H :=
  h.run ok fr fun vs H1 s1 al => by
    match vs, al with
    | [x, y, z], al => exact ⟨x, y, z, rfl, k _ H1 s1 ((((fr.mo s1.1).set al.1 i).set al.2.1 j).set al.2.2.1 l)⟩
/-- a loop over a range, or a list, whose turns change the world -/
theorem run_for {wi : TI} {j : Nat} {α : Type} (L : List α) (X : α → Ty) (Pv : Nat → Wd → Hp → L2.St → Prop) (hi : EVI W G wi (L.map X)) (ok : W.ok H) (fr : Fr (W.v H) G σ) (h0 : ∀ H1, W.st H H1 → Pv 0 W H1 σ)
    (step : ∀ (i : Nat) (a : α) (Wi : Wd) (Hi H2 : Hp) (σi : L2.St) (x : V) (N : L2.St → Hp → Prop), L[i]? = some a → Pv i Wi Hi σi → Wi.st Hi H2 → Xt (W.v H) (Wi.v H2) → (X a).p (Wi.v H2) x →
      (∀ σ' H' W', Pv (i + 1) W' H' σ' → W'.ok H' → Xt (Wi.v H2) (W'.v H') → N σ' H') → t { D with nx := N, ct := N, bk := D.nx } (σi.set j (some x)) H2)
    (kn : ∀ Wn Hn σn, Pv L.length Wn Hn σn → Wn.ok Hn → Xt (W.v H) (Wn.v Hn) → D.nx σn Hn) : tFor wi (gName j) t D σ H := hi.run ok fr fun J H1 gd s1 hg1 I => by
  refine ⟨fun i m σ' H' => m = L.length - i ∧ i ≤ L.length ∧ ∃ W', Pv i W' H' σ' ∧ W'.ok H' ∧ Xt (W.v H1) (W'.v H'), ⟨L.length, by simp, Nat.zero_le _, W, h0 H1 s1, s1.2, Xt.refl _⟩, ?_⟩
  rintro i m σ' Hi ⟨rfl, hil, W', pv, okV, x⟩
  have gH := I.mo hg1 x
  by_cases hlt : i < L.length
  · refine .inr ⟨I.go gH (vis_sub _ _) (by rw [List.length_map]; exact hlt), fun σ2 H2 => i + 1 ≤ L.length ∧ ∃ W', Pv (i + 1) W' H2 σ2 ∧ W'.ok H2 ∧ Xt (W.v H1) (W'.v H2), fun σ2 H2 p => ⟨L.length - (i + 1), by omega, rfl, p⟩, fun y H2 hy => ?_⟩
    have ha : L[i]? = some L[i] := List.getElem?_eq_getElem hlt
    obtain ⟨xH, py⟩ := I.yld okV gH (by rw [List.getElem?_map, ha]; rfl) hy
    have sV := okV.pure xH
    exact step i L[i] W' Hi H2 σ' y _ ha pv sV ((s1.1.trans x).trans sV.1) py fun σ3 H3 W3 p3 ok3 x3 => ⟨hlt, W3, p3, ok3, (x.trans sV.1).trans x3⟩
  · have e : i = L.length := by omega
    subst e
    exact .inl ⟨by have := I.stop gH (vis_sub _ _); rwa [List.length_map] at this, kn W' Hi σ' pv okV (s1.1.trans x)⟩
theorem run_ifP {p : Bool → Prop} {v : TS} (h : EVTP W G tt p) (ok : W.ok H) (fr : Fr (W.v H) G σ) (k : ∀ b H', p b → W.st H H' → Fr (W.v H') G σ → if b = true then tSeq t u D σ H' else tSeq v u D σ H') : tSeq (tIfS tt t v) u D σ H :=
  h.run ok fr fun b H1 hb s1 => k b H1 hb s1 (fr.mo s1.1)
theorem run_ifP1 {p : Bool → Prop} {v : TS} (h : EVTP W G tt p) (ok : W.ok H) (fr : Fr (W.v H) G σ) (k : ∀ b H', p b → W.st H H' → Fr (W.v H') G σ → if b = true then t D σ H' else v D σ H') : tIfS tt t v D σ H :=
  h.run ok fr fun b H1 hb s1 => k b H1 hb s1 (fr.mo s1.1)
end
end Fo
set_option Elab.async false
set_option linter.all false
set_option maxRecDepth 100000
set_option maxHeartbeats 1000000
namespace Fo
open PySem PySem.Spec PyProof.Rows L2
local macro_rules | `(tactic| walk_at "ev") => `(tactic| first
  | ((with_reducible apply EV.var); rfl)
  | (with_reducible exact EV.cst)
  | (with_reducible exact EVA.nil)
  | (with_reducible exact EVO.none)
  | ((with_reducible apply EVO.some); (· walk_at "ev"))
  | ((with_reducible apply EVA.cons); (· walk_at "ev"); (· walk_at "ev"))
  | ((with_reducible apply EV.op); (· walk_at "ev"); (· walk_at "ev"); (· walk_at "rv"))
  | ((with_reducible apply EV.un); (· walk_at "ev"); (· exact RU.neg))
  | ((with_reducible apply EV.chain); (· walk_at "ev"); (· walk_at "ev"); (· walk_at "rv"); (· walk_at "ev"); (· walk_at "rv"))
  | ((with_reducible apply EV.cb); (· walk_at "ev"); (· walk_at "rv"))
  | ((with_reducible apply EV.bits); (· walk_at "ev"))
  | ((with_reducible apply EV.slT); (· walk_at "ev"); (· walk_at "ev"); (· walk_at "ev"))
  | ((with_reducible apply EV.isN); (· walk_at "ev"))
  | ((with_reducible apply EV.notN); (· walk_at "ev"))
  | ((with_reducible apply EV.notV); (· walk_at "ev"))
  | ((with_reducible apply EV.andV); (· walk_at "ev"); (· intro _; walk_at "ev"))
  | ((with_reducible apply EVT.test); (· walk_at "ev"))
  | ((with_reducible apply EVT.B); (· walk_at "ev"))
  | ((with_reducible apply EVT.not); (· walk_at "ev"))
  | ((with_reducible apply EV.tup); (· walk_at "ev"); (· decide))
  | ((with_reducible apply EV.lst); (· walk_at "ev"); (· decide))
  | ((with_reducible apply EVI.list); (· walk_at "ev"))
  | ((with_reducible apply EVI.tup); (· walk_at "ev"))
  | ((with_reducible apply EVI.enum); (· walk_at "ev"))
  | ((with_reducible apply EVI.enumT); (· walk_at "ev"))
  | ((with_reducible apply EVI.zipT); (· walk_at "ev"); (· walk_at "ev")))
local macro_rules | `(tactic| walk_at "rv") => `(tactic| first
  | exact RV.I0
  | exact RV.oneShl (by decide)
  | exact RV.shrN
  | exact RV.odd
  | exact RC.isi_ii
  | exact RC.isi_ib
  | exact RC.isi_tt
  | exact RC.isi_ss
  | exact RC.lenT
  | exact RC.lenL
  | exact RC.sumF
  | exact RC.allF
  | exact RV.inTN
  | exact RV.inLN
  | exact RV.inTO
  | exact RC.tupOf
  | exact RC.lstOfT
  | exact RC.lstOfL
  | exact RC.int
  | exact RC.intB
  | exact RC.abs
  | exact RV.Eq rfl
  | exact RV.Ne rfl)
/-! ## whether a draw tells what the law's state is -/
theorem drop_put {W : Wd} {D : Addr} {o o' : HO} {H : Hp} (ok : (W.own D o trivial).ok H) (hD : D ∉ W.M) : W.ok (upd H D o') ∧ Xt ((W.own D o trivial).v H) (W.v (upd H D o')) := by
  have h : (W.own D o' trivial).ok (upd H D o') := ok.put hD
  have e : (W.own D o' trivial).v (upd H D o') = (W.own D o trivial).v H := own_put
  refine ⟨h.show_, ?_⟩
  rw [← e]
  exact own_sub
theorem chs_len {s : St3} (h : Sok s) {c : Bool × Nat} (hc : c ∈ waiting s.2.1) : (chs s c).length ≤ 4 := by
  unfold chs
  split
  · exact opn_len h.1 (h.lt hc)
  · exact opr_len h.1
theorem nd_settled (L : List (List Nat)) (n : Nat) : ((lawSettled L n).map (·.1)).Nodup := by
  unfold lawSettled
  rw [List.map_map]
  have : ((List.range n).filter fun p => oneOf (L.map fun d => d.getD p 0)).map ((fun x : Nat × Nat => x.1) ∘ fun p => (p, (L.headD []).getD p 0)) = (List.range n).filter fun p => oneOf (L.map fun d => d.getD p 0) := List.map_id' _
  rw [this]
  exact List.nodup_range.sublist List.filter_sublist
theorem len_settled (L : List (List Nat)) (n : Nat) : (lawSettled L n).length ≤ n := by
  unfold lawSettled
  rw [List.length_map]
  have := List.length_filter_le (fun p => oneOf (L.map fun d => d.getD p 0)) (List.range n)
  rwa [List.length_range] at this
section
variable {P : Program} {w : World} {K : PySem.W.Frag} {mg : Str → Option Value} {base : Heap}
abbrev SeenIx := Addr × Addr × Addr × Addr × DSt
abbrev hSeen (T : Tp K mg) (i : SeenIx) (W : Wd) : Prop := HasD T i.1 i.2.1 i.2.2.2.2 W ∧ HasS i.2.2.1 i.2.2.2.1 i.2.2.2.2 W ∧ Good i.2.2.2.2.1
abbrev sp_seen (T : Tp K mg) : Sp := gSp (hSeen T) (fun i => [Ty.is (.ref i.1), Ty.is (.ref i.2.2.1)]) (fun _ => tBl true)
theorem ok_law_seen (T : Tp K mg) : FnOk P w K mg base CX0 12 T.law_seen.a T.law_seen.fd p_law_seen (sp_seen T) :=
  g_ok T.law_seen.F sc_law_seen (fun _ => rfl) fun cdv A outer s H E hr => by
    have nd := sc_law_seen.nd
    refine ⟨_, (pss_cons (ps_par3 (i := 2) (j := 3) (l := 4) rfl nd rfl rfl rfl (by decide) (by decide) (by decide) rfl rfl rfl (pa_cons (pe_ix ix_list (pv 1) pe_int (fun _ _ => rfl)) (pa_cons (pe_ix ix_list (pv 1) pe_int (fun _ _ => rfl)) (pa_cons (pe_ix ix_list (pv 1) pe_int (fun _ _ => rfl)) pa_nil))) (by rfl)) (pss_cons (ps_set (i := 5) nd rfl (Or.inl rfl) (pe_call (ok_law_deals T) (hr.mono (by first | decide | omega)) rfl T.law_deals.m T.law_deals.F.kp T.law_deals.b .nil pass0 (pa_cons (pv 1) pa_nil))) (pss_cons (ps_if (PW.pt (pw_or (pt_cmpR (op_neD hr.units) (pe_meth0 (pv 0) T.Draw.cl T.Draw_standing.mt (ok_Draw_standing T) (hr.mono (by first | decide | omega)) T.Draw_standing.b .nil pass0) (pv 3) (nomark _)) (pw_or (pt_cmpR (op_neD hr.units) (pe_meth0 (pv 0) T.Draw.cl T.Draw_history.mt (ok_Draw_history T) (hr.mono (by first | decide | omega)) T.Draw_history.b .nil pass0) (pv 4) (nomark _)) (pw_or1 (pt_not (pt_val (pe_callB call_isi (by rfl) T.b_isinstance (by decide +kernel) (pa_cons (pe_meth0 (pv 0) T.Draw.cl T.Draw_history.mt (ok_Draw_history T) (hr.mono (by first | decide | omega)) T.Draw_history.b .nil pass0) (pa_cons (pe_bltn (v := .ty "tuple") (by rfl) T.b_tuple (by decide +kernel) rfl) pa_nil))))))))) (pss_one (ps_ret pe_bl)) pss_nil) (pss_cons (ps_if (PW.pt (pw_or (pt_cmpR (OpR.or (op_ownNe (ok_teq T.Table_eq.toDf T) T.Table_eq.mt.1 T.ne_Table T.hm_Table T.Table_eq.mt.2 T.Table_eq.b (hr.mono (by decide))) (op_ownNe (ok_teq T.RawTable_eq.toDf T) T.RawTable_eq.mt.1 T.ne_RawTable T.hm_RawTable T.RawTable_eq.mt.2 T.RawTable_eq.b (hr.mono (by decide)))) (pe_meth0 (pv 0) T.Draw.cl T.Draw_table.mt (ok_Draw_table T) (hr.mono (by first | decide | omega)) T.Draw_table.b .nil pass0) (pe_make T.Table.mkk (ok_Table_init T) (hr.mono (by first | decide | omega)) rfl T.Table.m T.Table.b .nil pass0 (pa_cons (pv 2) pa_nil)) (nomark _)) (pw_or (pt_cmpR (op_neD hr.units) (pe_fld (pe_meth0 (pv 0) T.Draw.cl T.Draw_table.mt (ok_Draw_table T) (hr.mono (by first | decide | omega)) T.Draw_table.b .nil pass0) rfl) (pv 2) (nomark _)) (pw_or1 (pt_not (pt_val (pe_call (ok_law_whole T) (hr.mono (by first | decide | omega)) rfl T.law_whole.m T.law_whole.F.kp T.law_whole.b .nil pass0 (pa_cons (pe_fld (pe_meth0 (pv 0) T.Draw.cl T.Draw_table.mt (ok_Draw_table T) (hr.mono (by first | decide | omega)) T.Draw_table.b .nil pass0) rfl) (pa_cons (pe_callB call_len_seq (by rfl) T.b_len PySem.boot_len (pa_cons (pv 2) pa_nil)) pa_nil))))))))) (pss_one (ps_ret pe_bl)) pss_nil) (pss_cons (ps_if (PW.pt (pw_or (pt_not (pt_val (pe_call (ok_law_whole T) (hr.mono (by first | decide | omega)) rfl T.law_whole.m T.law_whole.F.kp T.law_whole.b .nil pass0 (pa_cons (pe_meth0 (pv 0) T.Draw.cl T.Draw_many.mt (ok_Draw_many T) (hr.mono (by first | decide | omega)) T.Draw_many.b .nil pass0) (pa_cons (pe_callB call_len_seq (by rfl) T.b_len PySem.boot_len (pa_cons (pv 5) pa_nil)) pa_nil))))) (pw_or1 (pt_not (pt_val (pe_call (ok_law_whole T) (hr.mono (by first | decide | omega)) rfl T.law_whole.m T.law_whole.F.kp T.law_whole.b .nil pass0 (pa_cons (pe_meth0 (pv 0) T.Draw.cl T.Draw_deeds.mt (ok_Draw_deeds T) (hr.mono (by first | decide | omega)) T.Draw_deeds.b .nil pass0) (pa_cons (pe_callB call_len_seq (by rfl) T.b_len PySem.boot_len (pa_cons (pe_ix ix_list (pv 1) pe_int (fun _ _ => rfl)) pa_nil)) pa_nil)))))))) (pss_one (ps_ret pe_bl)) pss_nil) (pss_cons (ps_set (i := 6) nd rfl (Or.inl rfl) (pe_meth0 (pv 0) T.Draw.cl T.Draw_settled.mt (ok_Draw_settled T) (hr.mono (by first | decide | omega)) T.Draw_settled.b .nil pass0)) (pss_cons (ps_if (PW.pt (pw_or (pt_not (pt_val (pe_callB call_isi (by rfl) T.b_isinstance (by decide +kernel) (pa_cons (pv 6) (pa_cons (pe_bltn (v := .ty "dict") (by rfl) T.b_dict (by decide +kernel) rfl) pa_nil))))) (pw_or1 (pt_cmpR (op_ne_dictA (Nat.lt_of_succ_lt (hu_of hr))) (pv 6) (pe_call (ok_law_settled T) (hr.mono (by first | decide | omega)) rfl T.law_settled.m T.law_settled.F.kp T.law_settled.b .nil pass0 (pa_cons (pv 5) pa_nil)) (nomark _))))) (pss_one (ps_ret pe_bl)) pss_nil) (pss_cons (ps_dput (hu_of hr) (pv 6) pe_int pe_int rfl) (pss_cons (ps_if (pt_cmpR (op_ne_dictA (Nat.lt_of_succ_lt (hu_of hr))) (pe_meth0 (pv 0) T.Draw.cl T.Draw_settled.mt (ok_Draw_settled T) (hr.mono (by first | decide | omega)) T.Draw_settled.b .nil pass0) (pe_call (ok_law_settled T) (hr.mono (by first | decide | omega)) rfl T.law_settled.m T.law_settled.F.kp T.law_settled.b .nil pass0 (pa_cons (pv 5) pa_nil)) (nomark _)) (pss_one (ps_ret pe_bl)) pss_nil) (pss_cons (ps_for PassesOwn.never rfl (pi_list (pe_call (ok_law_comers T) (hr.mono (by first | decide | omega)) rfl T.law_comers.m T.law_comers.F.kp T.law_comers.b .nil pass0 (pa_cons (pv 3) pa_nil))) (pg_name (i := 7) nd rfl (Or.inl rfl)) (pss_cons (ps_set (i := 8) nd rfl (Or.inl rfl) (pe_meth (pv 0) T.Draw.cl T.Draw_open_for.mt (ok_Draw_open_for T) (hr.mono (by first | decide | omega)) T.Draw_open_for.b .nil pass0 (pa_cons (pv 7) pa_nil))) (pss_cons (ps_if (PW.pt (pw_or (pt_not (pt_val (pe_callB call_isi (by rfl) T.b_isinstance (by decide +kernel) (pa_cons (pv 8) (pa_cons (pe_bltn (v := .ty "list") (by rfl) T.b_list (by decide +kernel) rfl) pa_nil))))) (pw_or1 (pt_cmpR (op_neD hr.units) (pv 8) (pe_call (ok_law_choices T) (hr.mono (by first | decide | omega)) rfl T.law_choices.m T.law_choices.F.kp T.law_choices.b .nil pass0 (pa_cons (pv 5) (pa_cons (pv 7) pa_nil))) (nomark _))))) (pss_one (ps_ret pe_bl)) pss_nil) (pss_cons (ps_if (pt_not (pt_val (pe_callB (cr_all rfl) (by rfl) T.b_all (by decide +kernel) (pa_cons (pe_lc (own := [("_law_one", 9)]) rfl nd (pi_list (pv 8)) (blkOk_by (own := [("_law_one", 9)]) (N := n_law_seen) (sc := defScope s_law_seen) (by decide +kernel)) (fun _ _ _ _ _ => (pg_name (i := 9) nd rfl (Or.inl rfl))) (fun _ _ _ _ _ => pts_nil) (fun _ _ _ _ _ => (pe_call (ok_law_whole T) (hr.mono (by first | decide | omega)) rfl T.law_whole.m T.law_whole.F.kp T.law_whole.b .nil pass0 (pa_cons (pv 9) (pa_cons (pv 9) pa_nil))))) pa_nil)))) (pss_one (ps_ret pe_bl)) pss_nil) (pss_cons (ps_expr (pe_bm PySem.F.plainAttrs_list PySem.F.slot_list_append PySem.F.type_list_append mt_append (pv 8) (pa_cons pe_int pa_nil))) (pss_one (ps_if (pt_cmpR (op_neD hr.units) (pe_meth (pv 0) T.Draw.cl T.Draw_open_for.mt (ok_Draw_open_for T) (hr.mono (by first | decide | omega)) T.Draw_open_for.b .nil pass0 (pa_cons (pv 7) pa_nil)) (pe_call (ok_law_choices T) (hr.mono (by first | decide | omega)) rfl T.law_choices.m T.law_choices.F.kp T.law_choices.b .nil pass0 (pa_cons (pv 5) (pa_cons (pv 7) pa_nil))) (nomark _)) (pss_one (ps_ret pe_bl)) pss_nil))))))) (pss_one (ps_ret pe_bl)))))))))))), fun W i hi => ⟨fun {σ H D} ok fr kn kr => ?_⟩⟩
    obtain ⟨a, pl, b, e, s⟩ := i
    obtain ⟨hd, hs, hg⟩ := hi
    have hd : HasD T a pl s W := hd
    have hs : HasS b e s W := hs
    have hg : Good s.1 := hg
    have ho := hg.ok
    have hdl : (deals s.1).length ≤ 24 := deals_len ho
    have h4 := ho.1.2.1
    have hcnt : cntL s.1.1 (und s.1.2.1) (unu s.1.2.1) = (deals s.1).length := (deals_count hg.rows hg.st).symm
    have hset : settled s.1.1 s.1.2.1 = lawSettled (deals s.1) s.1.1.length := settled_eq hg.rows hg.st hg.any
    have hds : deals s.1 ≠ [] ∧ (deals s.1).length ≤ 24 ∧ s.1.1.length ≤ 4 ∧ ∀ d ∈ deals s.1, d.length = s.1.1.length := ⟨hg.any, hdl, h4, fun d hd => (deals_mem ho hd).1⟩
    have hnd : ((lawSettled (deals s.1) s.1.1.length).map (·.1)).Nodup := nd_settled _ _
    refine run_par3 (EVA.cons (EV.s0 hs (EV.var rfl)) (EVA.cons (EV.s1 hs (EV.var rfl)) (EVA.cons (EV.s2 hs (EV.var rfl)) EVA.nil))) ok fr fun σ1 H1 s1 fr1 => ?_
    refine run_asg (EV.callG (b, e, s, ()) ⟨hs, ho⟩ (EVA.cons (EV.var rfl) EVA.nil)) s1.2 fr1 fun v2 H2 s2 p2 fr2 => ?_
    refine run_ifb (b := false) (EVT.eq (EVT.or (EVT.B (EV.op (EV.methG (a, pl, s, ()) ⟨hd, ho⟩ (EV.var rfl) (hd.ins (by decide +kernel)) EVA.nil) (EV.var rfl) (RV.neD Dm.stand (by decide) isD_stand isD_stand))) fun _ => EVT.or (EVT.B (EV.op (EV.methG (a, pl, s, ()) ⟨hd, ho⟩ (EV.var rfl) (hd.ins (by decide +kernel)) EVA.nil) (EV.var rfl) (RV.neD Dm.hist (by decide) isD_hist isD_hist))) fun _ => EVT.not (EVT.B (EV.cb (EVA.cons (EV.methG (a, pl, s, ()) ⟨hd, ho⟩ (EV.var rfl) (hd.ins (by decide +kernel)) EVA.nil) (EVA.cons EV.cst EVA.nil)) RC.isi_tt))) (by simp)) s2.2 fr2 (fun h => by cases h) fun _ H3 s3 fr3 => run_next ?_
    refine run_ifb (b := false) (EVT.eq (EVT.or (EVT.B (EV.op (EV.methG (a, pl, s, ()) ⟨hd, ho⟩ (EV.var rfl) (hd.ins (by decide +kernel)) EVA.nil) (EV.tableT (EV.var rfl) ho.1) (RV.teq (neg := true)))) fun _ => EVT.or (EVT.B (EV.op (EV.fld (EV.methG (a, pl, s, ()) ⟨hd, ho⟩ (EV.var rfl) (hd.ins (by decide +kernel)) EVA.nil) (has_rows T _)) (EV.var rfl) (RV.neD Dm.rows (by decide) isD_rows isD_rows))) fun _ => EVT.not (EVT.B (EV.call (s.1.1.length, s.1.1.length) (EVA.cons (EV.fld (EV.methG (a, pl, s, ()) ⟨hd, ho⟩ (EV.var rfl) (hd.ins (by decide +kernel)) EVA.nil) (has_size T _)) (EVA.cons (EV.eq (EV.cb (EVA.cons (EV.var rfl) EVA.nil) RC.lenT) (by rw [List.length_map])) EVA.nil)) trivial))) (by simp)) s3.2 fr3 (fun h => by cases h) fun _ H4 s4 fr4 => run_next ?_
    refine run_ifb (b := false) (EVT.eq (EVT.or (EVT.not (EVT.B (EV.call (cntL s.1.1 (und s.1.2.1) (unu s.1.2.1), (deals s.1).length) (EVA.cons (EV.methG (a, pl, s, ()) ⟨hd, ho⟩ (EV.var rfl) (hd.ins (by decide +kernel)) EVA.nil) (EVA.cons (EV.eq (EV.cb (EVA.cons (EV.var rfl) EVA.nil) RC.lenL) (by rw [List.length_map])) EVA.nil)) trivial))) fun _ => EVT.not (EVT.B (EV.call (s.2.length, s.2.length) (EVA.cons (EV.methG (a, pl, s, ()) ⟨hd, ho⟩ (EV.var rfl) (hd.ins (by decide +kernel)) EVA.nil) (EVA.cons (EV.lenElders hs (EV.var rfl)) EVA.nil)) trivial))) (by simp [hcnt])) s4.2 fr4 (fun h => by cases h) fun _ H5 s5 fr5 => run_next ?_
    have s15 := (((s1.trans s2).trans s3).trans s4).trans s5
    refine run_asgD (EVD.methG (a, pl, s, ()) ⟨hd, ho⟩ (EV.var rfl) (hd.ins (by decide +kernel)) EVA.nil) s5.2 fr5 fun D1 H6 hD1 ok6 x6 fr6 => ?_
    have frS := Fr.one (i := 6) (fr5.mo x6) (see_dic hD1 ok6)
    refine run_ifb (W := W.see D1 _) (b := false) (EVT.eq (EVT.or (EVT.not (EVT.B (EV.cb (EVA.cons (EV.var rfl) (EVA.cons EV.cst EVA.nil)) RC.isi_dd))) fun _ => EVT.B (EV.op (EV.var rfl) (EV.eq (EV.call (deals s.1, s.1.1.length) (EVA.cons (EV.var rfl) EVA.nil) hds) (by rw [← hset])) (RV.neDic2 (by rw [hset]; exact hnd)))) rfl) (ok6.see hD1) frS (fun h => by cases h) fun _ H7 s7 fr7 => run_next ?_
    have ok7 := s7.2.unsee
    have x7 := see_xt s7.1
    refine run_seq (run_dput (W := W.own D1 _ trivial) (L := settled s.1.1 s.1.2.1) (k := 0) (v := 99) (a := D1) (EV.var (i := 6) rfl) EV.cst EV.cst (fun H o => o.at) (by have := len_settled (deals s.1) s.1.1.length; rw [hset]; omega) ok7 (fr6.mo x7) fun H8 s8 fr8 => ?_)
    obtain ⟨ok9, x9⟩ := drop_put (o' := .dK (kvN (putN (settled s.1.1 s.1.2.1) 0 99))) s8.2 hD1
    dsimp only
    have x19 : Xt (W.v H) (W.v (upd H8 D1 (.dK (kvN (putN (settled s.1.1 s.1.2.1) 0 99))))) := s15.1.trans (((x6.trans x7).trans s8.1).trans x9)
    refine run_ifb (b := false) (EVT.B (EV.op (EV.eq (EVD.ev (EVD.methG (a, pl, s, ()) ⟨hd, ho⟩ (EV.var rfl) (hd.ins (by decide +kernel)) EVA.nil)) rfl) (EV.eq (EV.call (deals s.1, s.1.1.length) (EVA.cons (EV.var rfl) EVA.nil) hds) (by rw [← hset])) (RV.neDic2 (by rw [hset]; exact hnd)))) ok9 (fr8.mo x9) (fun h => by cases h) fun _ HA sA frA => run_next ?_
    have st0 : W.st H HA := ⟨x19.trans sA.1, sA.2⟩
    let GL : Ctx := [some (Ty.is (.ref a)), some (Ty.is (.ref b)), some (tRows s.1.1), some (tStand s.1.2.1), some (tHist s.1.2.2), some (Ty.lst ((deals s.1).map tDeal)), some (Ty.is (.ref D1)), none, none, none]
    refine run_seq ((SB.for_ (W := W) (G := GL) (vs := [7]) (waiting s.1.2.1) tComer (fun c g => g.set 7 (some (tComer c))) (EVI.list (EV.call s.1.2.1 (EVA.cons (EV.var rfl) EVA.nil) ho.l4)) (fun c _ => GT.name (by decide)) fun c hc => ⟨fun {σ H D} ok fr k => ?_⟩).run sA.2 frA fun σB HB sB frB => run_ret EV.cst sB.2 frB fun v HC sC pC => kr v HC ((st0.trans sB).trans sC) pC)
    have hch := chs_ok hg.rows hg.st hc
    have hlen := chs_len ho hc
    refine run_asgO (EVN.methG (a, pl, s, c) ⟨hd, ho, hc⟩ (EV.var rfl) (hd.ins (by decide +kernel)) (EVA.cons (EV.var rfl) EVA.nil)) ok fr fun D2 acc H1 hD2 ok1 x1 alD fr1 => ?_
    have frS := Fr.one (i := 8) (fr.mo x1) (see_lst (K := K) hD2 ok1 alD)
    refine run_ifb (W := W.see D2 _) (b := false) (EVT.eq (EVT.or (EVT.not (EVT.B (EV.cb (EVA.cons (EV.var rfl) (EVA.cons EV.cst EVA.nil)) RC.isi_ll))) fun _ => EVT.B (EV.op (EV.var rfl) (EV.call (deals s.1, c, chs s.1 c) (EVA.cons (EV.var rfl) (EVA.cons (EV.var rfl) EVA.nil)) hch) RV.neLst)) rfl) (ok1.see hD2) frS (fun h => by cases h) fun _ H2 s2 fr2 => run_next ?_
    refine run_ifb (W := W.see D2 _) (b := false) (EVT.eq (EVT.not (EVT.B (EV.cb (EVA.cons (EV.lcY (chs s.1 c) tN (fun x => tBl (decide (x = x))) _ (EVI.list (EV.var rfl)) (fun a _ => GT.name (by decide)) (fun W' x hx => EV.call (x, x) (EVA.cons (EV.var rfl) (EVA.cons (EV.var rfl) EVA.nil)) trivial) (by omega)) EVA.nil) RC.allF))) (by simp)) s2.2 fr2 (fun h => by cases h) fun _ H3 s3 fr3 => run_next ?_
    have s23 := s2.trans s3
    have ok3 := s3.2.unsee
    have x3 := see_xt s23.1
    refine run_seq (run_dropQ (run_bm (W := W.own D2 _ trivial) (EV.var (i := 8) rfl) ok3 (fr1.mo x3) fun H5 s5 fr5 => ⟨.inl ⟨rfl, _, SqL.of s5.2.at⟩, run_args (EVA.cons EV.cst EVA.nil) s5.2 fr5 fun zs H6 s6 p6 fr6 => ?_⟩))
    obtain ⟨z, rfl, pz⟩ := al1 p6
    have hacc : acc.length ≤ 4 := by rw [← alD.len, List.length_map]; exact hlen
    refine ⟨D2, acc, z, rfl, rfl, s6.2.at, szlt (by omega), ?_⟩
    obtain ⟨ok7, x7⟩ := drop_put (o' := .lst (acc ++ [z])) s6.2 hD2
    dsimp only
    refine run_if1b (b := false) (EVT.B (EV.op (EV.eq (EVN.ev (EVN.methG (a, pl, s, c) ⟨hd, ho, hc⟩ (EV.var rfl) (hd.ins (by decide +kernel)) (EVA.cons (EV.var rfl) EVA.nil))) rfl) (EV.call (deals s.1, c, chs s.1 c) (EVA.cons (EV.var rfl) (EVA.cons (EV.var rfl) EVA.nil)) hch) RV.neLst)) ok7 (fr6.mo x7) (fun h => by cases h) fun _ H8 s8 fr8 => ?_
    exact k _ H8 ⟨(((x1.trans x3).trans (s5.trans s6).1).trans x7).trans s8.1, s8.2⟩ (Fr.unset (i := 7) (Fr.unset (i := 8) fr8 rfl) rfl)
end
end Fo
set_option Elab.async false
set_option linter.all false
set_option maxRecDepth 100000
/-! Draw and state together; what stays true of them. -/
namespace Fo
open PySem PySem.Spec PyProof.Rows L2
section
variable {K : PySem.W.Frag} {mg : Str → Option Value}
/-- a draw, a law's state, the pool: each by itself -/
structure Three (T : Tp K mg) (p c a pl b e : Addr) (F : DSt → DSt → Wd) : Prop where
  d : ∀ t, Lens (fun s => F s t) [a, pl] (DrAt T a pl)
  s : ∀ s, LensS b e (fun t => F s t)
  p : ∀ s t, LensP p c (F s t)
/-- the state after at most k deeds, from the table R -/
structure DOk (R : List (List Nat)) (k : Nat) (s : DSt) : Prop where
  now : Good s.1
  past : ∀ t ∈ s.2, Good t
  few : s.2.length ≤ k
  hist : s.1.2.2.length ≤ k
  hists : ∀ t ∈ s.2, t.2.2.length ≤ k
  bot : (s.2 ++ [s.1]).head? = some (st0 R)
theorem DOk.mono {R : List (List Nat)} {k l : Nat} {s : DSt} (h : DOk R k s) (hk : k ≤ l) : DOk R l s := ⟨h.now, h.past, Nat.le_trans h.few hk, Nat.le_trans h.hist hk, fun t ht => Nat.le_trans (h.hists t ht) hk, h.bot⟩
theorem DOk.on {R : List (List Nat)} {k : Nat} {s : DSt} {t : St3} (h : DOk R k s) (hg : Good t) (hl : t.2.2.length ≤ k + 1) : DOk R (k + 1) (t, s.2 ++ [s.1]) := by
  refine ⟨hg, fun x hx => ?_, ?_, hl, fun x hx => ?_, ?_⟩
  · rcases List.mem_append.mp hx with hx | hx
    · exact h.past x hx
    · rw [List.mem_singleton.mp hx]; exact h.now
  · show (s.2 ++ [s.1]).length ≤ k + 1
    rw [List.length_append]
    have := h.few
    show s.2.length + 1 ≤ k + 1
    omega
  · rcases List.mem_append.mp hx with hx | hx
    · exact Nat.le_succ_of_le (h.hists x hx)
    · rw [List.mem_singleton.mp hx]; exact Nat.le_succ_of_le h.hist
  · show ((s.2 ++ [s.1]) ++ [t]).head? = _
    have := h.bot
    cases q : s.2 with
    | nil => rw [q] at this; exact this
    | cons a l => rw [q] at this; exact this
theorem last_eq {s : DSt} (h : s.2 ≠ []) : s.2 = s.2.dropLast ++ [lastOr s] := by
  have e : lastOr s = s.2.getLast h := by
    unfold lastOr
    rw [List.getLast?_eq_some_getLast h]; rfl
  rw [e]
  exact (List.dropLast_concat_getLast h).symm
theorem DOk.back {R : List (List Nat)} {k : Nat} {s : DSt} (h : DOk R k s) (hne : s.2 ≠ []) : DOk R k (lastOr s, s.2.dropLast) := by
  have e := last_eq hne
  have hm : lastOr s ∈ s.2 := by rw [e]; simp
  have hs : ∀ x ∈ s.2.dropLast, x ∈ s.2 := fun x hx => (List.dropLast_sublist s.2).subset hx
  refine ⟨h.past _ hm, fun x hx => h.past x (hs x hx), ?_, h.hists _ hm, fun x hx => h.hists x (hs x hx), ?_⟩
  · have := h.few
    show s.2.dropLast.length ≤ k
    rw [List.length_dropLast]; omega
  · show (s.2.dropLast ++ [lastOr s]).head? = _
    rw [← e]
    have := h.bot
    cases q : s.2 with
    | nil => exact absurd q hne
    | cons a l => rw [q] at this; exact this
theorem DOk.start {R : List (List Nat)} {d : List Nat} (hR : RowsOk R) (hd : Deal R d) : DOk R 0 (st0 R, []) := ⟨Good.start hR hd, fun t ht => (by cases ht), Nat.le_refl _, Nat.le_refl _, fun t ht => (by cases ht), rfl⟩
theorem DOk.bottom {R : List (List Nat)} {k : Nat} {s : DSt} (h : DOk R k s) (he : s.2 = []) : s.1 = st0 R := by
  have := h.bot
  rw [he] at this
  exact Option.some.inj this
/-! ### small rules -/
variable {W : Wd} {G : Ctx} {te ta tb : TE} {ts : List Ty} {u : TS} {σ : L2.St} {H : Hp} {D : Ends}
theorem EV.isNT (h : EV W G te (Ty.tup ts)) : EV W G (tIsN te) (tBl false) := ⟨fun ok fr k => h.run ok fr fun v H1 s1 p => by
  obtain ⟨a, vs, rfl, _⟩ := p
  exact k _ H1 s1 rfl⟩
theorem run_retSeqQ (k : te σ H D.rt) : tSeq (tRet te) u D σ H := k
theorem run_isN {Q : VK} (k : te σ H fun v H' => Q (.bl (decide (v = .non))) H') : tIsN te σ H Q := k
theorem al3 {H : Hp} {x y z : V} : ∀ {vs : List V}, Al H [Ty.is x, Ty.is y, Ty.is z] vs → vs = [x, y, z]
  | [_, _, _], h => by
    obtain ⟨h1, h2, h3, _⟩ := h
    cases h1; cases h2; cases h3
    rfl
  | [], h => h.elim
  | [_], h => h.2.elim
  | [_, _], h => h.2.2.elim
  | _ :: _ :: _ :: _ :: _, h => h.2.2.2.elim
theorem EV.ixLE {α : Type} {L : List α} {f : α → Ty} (ha : EV W G ta (Ty.lst (L.map f))) (hb : EV W G tb (Ty.exP (fun r => r < L.length) tN)) : EV W G (tOp (rIxL K) ta tb) (Ty.exP (fun c => c ∈ L) f) := ⟨fun ok fr k =>
  ha.run ok fr fun x H1 s1 p1 => hb.run s1.2 (fr.mo s1.1) fun y H2 s2 p2 => by
    obtain ⟨a, vs, rfl, e1, al⟩ := (Ty.lst (L.map f)).mo s2.1 p1
    obtain ⟨r, hr, py⟩ := p2
    cases py
    have hr : r < L.length := hr
    obtain ⟨v, ev, pv⟩ := al.get (i := r) (t := f L[r]) (by rw [List.getElem?_map, List.getElem?_eq_getElem hr]; rfl)
    exact ⟨a, vs, (r : Int), v, rfl, rfl, SqL.of (vis_some e1).2, atI_nat ev, k v H2 (s1.trans s2) ⟨L[r], List.getElem_mem hr, pv⟩⟩⟩
end
end Fo
set_option Elab.async false
set_option linter.all false
set_option maxRecDepth 100000
set_option maxHeartbeats 1000000
namespace Fo
open PySem PySem.Spec PyProof.Rows L2
local macro_rules | `(tactic| walk_at "ev") => `(tactic| first
  | ((with_reducible apply EV.var); rfl)
  | (with_reducible exact EV.cst)
  | (with_reducible exact EVA.nil)
  | (with_reducible exact EVO.none)
  | ((with_reducible apply EVO.some); (· walk_at "ev"))
  | ((with_reducible apply EVA.cons); (· walk_at "ev"); (· walk_at "ev"))
  | ((with_reducible apply EV.op); (· walk_at "ev"); (· walk_at "ev"); (· walk_at "rv"))
  | ((with_reducible apply EV.un); (· walk_at "ev"); (· exact RU.neg))
  | ((with_reducible apply EV.chain); (· walk_at "ev"); (· walk_at "ev"); (· walk_at "rv"); (· walk_at "ev"); (· walk_at "rv"))
  | ((with_reducible apply EV.cb); (· walk_at "ev"); (· walk_at "rv"))
  | ((with_reducible apply EV.bits); (· walk_at "ev"))
  | ((with_reducible apply EV.slT); (· walk_at "ev"); (· walk_at "ev"); (· walk_at "ev"))
  | ((with_reducible apply EV.isN); (· walk_at "ev"))
  | ((with_reducible apply EV.notN); (· walk_at "ev"))
  | ((with_reducible apply EV.notV); (· walk_at "ev"))
  | ((with_reducible apply EV.andV); (· walk_at "ev"); (· intro _; walk_at "ev"))
  | ((with_reducible apply EVT.test); (· walk_at "ev"))
  | ((with_reducible apply EVT.B); (· walk_at "ev"))
  | ((with_reducible apply EVT.not); (· walk_at "ev"))
  | ((with_reducible apply EV.tup); (· walk_at "ev"); (· decide))
  | ((with_reducible apply EV.lst); (· walk_at "ev"); (· decide))
  | ((with_reducible apply EVI.list); (· walk_at "ev"))
  | ((with_reducible apply EVI.tup); (· walk_at "ev"))
  | ((with_reducible apply EVI.enum); (· walk_at "ev"))
  | ((with_reducible apply EVI.enumT); (· walk_at "ev"))
  | ((with_reducible apply EVI.zipT); (· walk_at "ev"); (· walk_at "ev")))
local macro_rules | `(tactic| walk_at "rv") => `(tactic| first
  | exact RV.I0
  | exact RV.oneShl (by decide)
  | exact RV.shrN
  | exact RV.odd
  | exact RC.isi_ii
  | exact RC.isi_ib
  | exact RC.isi_tt
  | exact RC.isi_ss
  | exact RC.lenT
  | exact RC.lenL
  | exact RC.sumF
  | exact RC.allF
  | exact RV.inTN
  | exact RV.inLN
  | exact RV.inTO
  | exact RC.tupOf
  | exact RC.lstOfT
  | exact RC.lstOfL
  | exact RC.int
  | exact RC.intB
  | exact RC.abs
  | exact RV.Eq rfl
  | exact RV.Ne rfl)
/-! ## the deeds -/
section
variable {P : Program} {w : World} {K : PySem.W.Frag} {mg : Str → Option Value} {base : Heap}
def spDeed (T : Tp K mg) : Sp := fun vs H Q _ => ∃ (F : DSt → DSt → Wd) (p c a pl b e : Addr) (R : List (List Nat)) (k : Nat) (s : DSt), Three T p c a pl b e F ∧ DOk R k s ∧ k ≤ 800 ∧ (F s s).ok H ∧ vs = [.ref p, .ref a, .ref b] ∧
  ∀ s' H', DOk R (k + 1) s' → (F s' s').ok H' → Xt ((F s s).v H) ((F s' s').v H') → Q (.bl true) H'
theorem dT (x : V) : V.bl (decide (x = x)) = V.bl true := by rw [decide_eq_true rfl]
theorem ok_law_strikes (T : Tp K mg) : FnOk P w K mg base CX0 12 T.law_strikes.a T.law_strikes.fd p_law_strikes (spDeed T) := by
  refine T.law_strikes.F.ok sc_law_strikes (fun vs H Q E h => ?_) (fun cdv A outer sh H vs Q E hr h => ?_)
  · obtain ⟨F, p, c, a, pl, b, e, R, k, s, _, _, _, _, rfl, _⟩ := h
    rfl
  obtain ⟨F, p, c, a, pl, b, e, R, k, s, L, hk, h8, ok, rfl, kq⟩ := h
  have nd := sc_law_strikes.nd
  refine ⟨_, (pss_cons (ps_set (i := 3) nd rfl (Or.inl rfl) (pe_call (ok_law_draw T) (hr.mono (by first | decide | omega)) rfl T.law_draw.m T.law_draw.F.kp T.law_draw.b .nil pass0 (pa_cons (pv 0) (pa_cons (pe_callB call_len_seq (by rfl) T.b_len PySem.boot_len (pa_cons (pe_ix ix_list (pv 2) pe_int (fun _ _ => rfl)) pa_nil)) pa_nil)))) (pss_cons (ps_set (i := 4) nd rfl (Or.inl rfl) (pe_call (ok_law_draw T) (hr.mono (by first | decide | omega)) rfl T.law_draw.m T.law_draw.F.kp T.law_draw.b .nil pass0 (pa_cons (pv 0) (pa_cons (pe_callB call_len_seq (by rfl) T.b_len PySem.boot_len (pa_cons (pe_ix ix_list (pv 2) pe_int (fun _ _ => rfl)) pa_nil)) pa_nil)))) (pss_cons (ps_set (i := 5) nd rfl (Or.inl rfl) (pe_call (ok_law_struck_due T) (hr.mono (by first | decide | omega)) rfl T.law_struck_due.m T.law_struck_due.F.kp T.law_struck_due.b .nil pass0 (pa_cons (pv 2) (pa_cons (pv 3) (pa_cons (pv 4) pa_nil))))) (pss_cons (ps_set (i := 6) nd rfl (Or.inl rfl) (pe_call (ok_law_told_strike T) (hr.mono (by first | decide | omega)) rfl T.law_told_strike.m T.law_told_strike.F.kp T.law_told_strike.b .nil pass0 (pa_cons (pv 1) (pa_cons (pv 3) (pa_cons (pv 4) pa_nil))))) (pss_cons (ps_if (pt_cmp (pc_isN (pv 5))) (pss_one (ps_ret (pe_cmpR op_eq (pv 6) pe_str (nomark _)))) pss_nil) (pss_cons (ps_expr (pe_call (ok_law_go_on T) (hr.mono (by first | decide | omega)) rfl T.law_go_on.m T.law_go_on.F.kp T.law_go_on.b .nil pass0 (pa_cons (pv 2) (pa_cons (pv 5) (pa_cons (pe_ix ix_list (pv 2) pe_int (fun _ _ => rfl)) (pa_cons (pe_ix ix_list (pv 2) pe_int (fun _ _ => rfl)) pa_nil)))))) (pss_one (ps_ret (pe_cmpR op_eq (pv 6) pe_str (nomark _)))))))))), ?_⟩
  have fr : Fr ((F s s).v H) [some (Ty.is (.ref p)), some (Ty.is (.ref a)), some (Ty.is (.ref b)), none, none, none, none] (L2.start n_law_strikes [.ref p, .ref a, .ref b]) := ⟨rfl, rfl, rfl, trivial⟩
  have hs : HasS b e s (F s s) := (L.s s).has
  have hg := hk.now
  have ho := hg.ok
  have hn : 0 < s.1.1.length ∧ s.1.1.length ≤ 4 := ⟨ho.1.1, ho.1.2.1⟩
  have few := hk.few
  refine run_asgE (EV.draw (L.p s s) hn.1 (by omega) (EV.var rfl) (EV.eq (EV.cb (EVA.cons (EV.s0 hs (EV.var rfl)) EVA.nil) RC.lenT) (by rw [List.length_map]))) ok fr fun pp v1 H1 hp s1 p1 fr1 => ?_
  refine run_asgE (EV.draw (L.p s s) hn.1 (by omega) (EV.var rfl) (EV.eq (EV.cb (EVA.cons (EV.s0 hs (EV.var rfl)) EVA.nil) RC.lenT) (by rw [List.length_map]))) s1.2 fr1 fun x v2 H2 hx s2 p2 fr2 => ?_
  refine run_asg (EV.callG (b, e, s, pp, x) ⟨hs, ho, hp, hx⟩ (EVA.cons (EV.var rfl) (EVA.cons (EV.var rfl) (EVA.cons (EV.var rfl) EVA.nil)))) s2.2 fr2 fun v3 H3 s3 p3 fr3 => ?_
  refine run_asgQ (run_call (EVA.cons (EV.var (i := 1) rfl) (EVA.cons (EV.var (i := 3) rfl) (EVA.cons (EV.var (i := 4) rfl) EVA.nil))) s3.2 fr3 fun vs H4 s4 al4 fr4 => ?_)
  have s14 := ((s1.trans s2).trans s3).trans s4
  refine ⟨(a, pl, pp, x), fun t => F t s, s, ⟨ho, hp, hx, by omega⟩, L.d s, s4.2, al4, fun s' hs' H5 ok5 x5 => ?_, fun hno H5 s5 => ?_⟩
  · have hs' : (strikeR s.1 pp x).map (fun t => (t, s.2 ++ [s.1])) = some s' := hs'
    rw [strike_eq hg.rows hg.st hp] at hs'
    cases hL : lawStrike s.1 pp x with
    | none => rw [hL] at hs'; cases hs'
    | some R' =>
      rw [hL] at hs'
      have hs' : ((R', s.1.2), s.2 ++ [s.1]) = s' := Option.some.inj hs'
      have hg' : Good (R', s.1.2) := hg.strike hp hL
      have hD' : DOk R (k + 1) s' := by rw [← hs']; exact hk.on hg' (Nat.le_succ_of_le hk.hist)
      have fr5 := (fr4.mo x5).set (T := tS "let") (v := .str "let") rfl 6
      rw [hL] at fr5
      have hs5 : HasS b e s (F s' s) := (L.s s').has
      refine run_ifb (W := F s' s) (b := false) (EVT.B (EV.isNT (EV.var (i := 5) (T := tRows R') rfl))) ok5 fr5 (fun h => by cases h) fun _ H6 s6 fr6 => run_next ?_
      refine run_seq (run_dropQ (run_callM (F := fun t => F s' t) (s := s) (b, e, (R', s.1.2)) (L.s s') (by show s.2.length ≤ 900; omega) s6.2 fr6 (ts := [Ty.is (.ref b), tRows R', tStand s.1.2.1, tHist s.1.2.2]) (EVA.cons (EV.var rfl) (EVA.cons (EV.var (i := 5) rfl) (EVA.cons (EV.s1 hs5 (EV.var rfl)) (EVA.cons (EV.s2 hs5 (EV.var rfl)) EVA.nil)))) fun v H7 ok7 x7 r7 => ?_))
      have ok7 : (F s' ((R', s.1.2), s.2 ++ [s.1])).ok H7 := ok7
      have x7 : Xt ((F s' s).v H6) ((F s' ((R', s.1.2), s.2 ++ [s.1])).v H7) := x7
      rw [hs'] at ok7 x7
      refine run_ret (W := F s' s') (EV.op (EV.var (i := 6) (T := tS "let") rfl) EV.cst (RV.Eq rfl)) ok7 (fr6.mo x7) fun v H8 s8 p8 => ?_
      cases p8
      have := kq s' H8 hD' s8.2 ((((s14.1.trans x5).trans s6.1).trans x7).trans s8.1)
      rw [dT]; exact this
  · have hno : (strikeR s.1 pp x).map (fun t => (t, s.2 ++ [s.1])) = none := hno
    rw [strike_eq hg.rows hg.st hp] at hno
    cases hL : lawStrike s.1 pp x with
    | some R' => rw [hL] at hno; cases hno
    | none =>
      have fr5 := (fr4.mo s5.1).set (T := tS "not open") (v := .str "not open") rfl 6
      rw [hL] at fr5
      refine run_ifb (W := F s s) (b := true) (EVT.eq (EVT.B (EV.isN (EV.var (i := 5) (T := tNon) rfl))) rfl) s5.2 fr5 (fun _ H6 s6 fr6 => run_retSeqQ ?_) fun h => by cases h
      refine run_ev (W := F s s) (EV.op (EV.var (i := 6) (T := tS "not open") rfl) EV.cst (RV.Eq rfl)) s6.2 fr6 fun v H8 s8 p8 _ => ?_
      cases p8
      have := kq s H8 (hk.mono (Nat.le_succ _)) s8.2 (((s14.1.trans s5.1).trans s6.1).trans s8.1)
      rw [dT]; exact this
theorem ok_law_allows (T : Tp K mg) : FnOk P w K mg base CX0 12 T.law_allows.a T.law_allows.fd p_law_allows (spDeed T) := by
  refine T.law_allows.F.ok sc_law_allows (fun vs H Q E h => ?_) (fun cdv A outer sh H vs Q E hr h => ?_)
  · obtain ⟨F, p, c, a, pl, b, e, R, k, s, _, _, _, _, rfl, _⟩ := h
    rfl
  obtain ⟨F, p, c, a, pl, b, e, R, k, s, L, hk, h8, ok, rfl, kq⟩ := h
  have nd := sc_law_allows.nd
  refine ⟨_, (pss_cons (ps_set (i := 3) nd rfl (Or.inl rfl) (pe_call (ok_law_draw T) (hr.mono (by first | decide | omega)) rfl T.law_draw.m T.law_draw.F.kp T.law_draw.b .nil pass0 (pa_cons (pv 0) (pa_cons (pe_callB call_len_seq (by rfl) T.b_len PySem.boot_len (pa_cons (pe_ix ix_list (pv 2) pe_int (fun _ _ => rfl)) pa_nil)) pa_nil)))) (pss_cons (ps_set (i := 4) nd rfl (Or.inl rfl) (pe_call (ok_law_draw T) (hr.mono (by first | decide | omega)) rfl T.law_draw.m T.law_draw.F.kp T.law_draw.b .nil pass0 (pa_cons (pv 0) (pa_cons (pe_callB call_len_seq (by rfl) T.b_len PySem.boot_len (pa_cons (pe_ix ix_list (pv 2) pe_int (fun _ _ => rfl)) pa_nil)) pa_nil)))) (pss_cons (ps_set (i := 5) nd rfl (Or.inl rfl) (pe_call (ok_law_told_allow T) (hr.mono (by first | decide | omega)) rfl T.law_told_allow.m T.law_told_allow.F.kp T.law_told_allow.b .nil pass0 (pa_cons (pv 1) (pa_cons (pv 3) (pa_cons (pv 4) pa_nil))))) (pss_cons (ps_if (pt_cmpR op_in_seq (pv 4) (pe_ix ix_tup (pe_ix ix_list (pv 2) pe_int (fun _ _ => rfl)) (pv 3) (fun _ _ => rfl)) rfl) (pss_one (ps_ret (pe_cmpR op_eq (pv 5) pe_str (nomark _)))) pss_nil) (pss_cons (ps_expr (pe_call (ok_law_go_on T) (hr.mono (by first | decide | omega)) rfl T.law_go_on.m T.law_go_on.F.kp T.law_go_on.b .nil pass0 (pa_cons (pv 2) (pa_cons (pe_call (ok_law_with T) (hr.mono (by first | decide | omega)) rfl T.law_with.m T.law_with.F.kp T.law_with.b .nil pass0 (pa_cons (pe_ix ix_list (pv 2) pe_int (fun _ _ => rfl)) (pa_cons (pv 3) (pa_cons (pv 4) pa_nil)))) (pa_cons (pe_ix ix_list (pv 2) pe_int (fun _ _ => rfl)) (pa_cons (pe_ix ix_list (pv 2) pe_int (fun _ _ => rfl)) pa_nil)))))) (pss_one (ps_ret (pe_cmpR op_eq (pv 5) pe_str (nomark _))))))))), ?_⟩
  have fr : Fr ((F s s).v H) [some (Ty.is (.ref p)), some (Ty.is (.ref a)), some (Ty.is (.ref b)), none, none, none] (L2.start n_law_allows [.ref p, .ref a, .ref b]) := ⟨rfl, rfl, rfl, trivial⟩
  have hs : HasS b e s (F s s) := (L.s s).has
  have hg := hk.now
  have ho := hg.ok
  have hn : 0 < s.1.1.length ∧ s.1.1.length ≤ 4 := ⟨ho.1.1, ho.1.2.1⟩
  have few := hk.few
  refine run_asgE (EV.draw (L.p s s) hn.1 (by omega) (EV.var rfl) (EV.eq (EV.cb (EVA.cons (EV.s0 hs (EV.var rfl)) EVA.nil) RC.lenT) (by rw [List.length_map]))) ok fr fun pp v1 H1 hp s1 p1 fr1 => ?_
  refine run_asgE (EV.draw (L.p s s) hn.1 (by omega) (EV.var rfl) (EV.eq (EV.cb (EVA.cons (EV.s0 hs (EV.var rfl)) EVA.nil) RC.lenT) (by rw [List.length_map]))) s1.2 fr1 fun x v2 H2 hx s2 p2 fr2 => ?_
  refine run_asgQ (run_call (EVA.cons (EV.var (i := 1) rfl) (EVA.cons (EV.var (i := 3) rfl) (EVA.cons (EV.var (i := 4) rfl) EVA.nil))) s2.2 fr2 fun vs H4 s4 al4 fr4 => ?_)
  have s14 := (s1.trans s2).trans s4
  have hp : pp < s.1.1.length := hp
  have hx : x < s.1.1.length := hx
  refine ⟨(a, pl, pp, x), fun t => F t s, s, ⟨ho, hp, hx, by omega⟩, L.d s, s4.2, al4, fun s' hs' H5 ok5 x5 => ?_, fun hno H5 s5 => ?_⟩
  · have hs' : (allowR s.1 pp x).map (fun t => (t, s.2 ++ [s.1])) = some s' := hs'
    unfold allowR at hs'
    by_cases hm : x ∈ s.1.1.getD pp []
    · rw [if_pos hm] at hs'; cases hs'
    · rw [if_neg hm] at hs'
      let R' := s.1.1.set pp (insR (s.1.1.getD pp []) x)
      have hs' : ((R', s.1.2), s.2 ++ [s.1]) = s' := Option.some.inj hs'
      have hg' : Good (R', s.1.2) := hg.allow hp hx
      have hD' : DOk R (k + 1) s' := by rw [← hs']; exact hk.on hg' (Nat.le_succ_of_le hk.hist)
      have fr5 := (fr4.mo x5).set (T := tS "let") (v := .str "let") rfl 5
      have hs5 : HasS b e s (F s' s) := (L.s s').has
      refine run_ifb (W := F s' s) (b := false) (EVT.eq (EVT.B (EV.op (EV.var (i := 4) rfl) (EV.ixT (EV.s0 hs5 (EV.var rfl)) (EV.var (i := 3) rfl) rfl (by rw [List.getElem?_map, getD_some (z := ([] : List Nat)) hp]; rfl)) RV.inTN)) (decide_eq_false hm)) ok5 fr5 (fun h => by cases h) fun _ H6 s6 fr6 => run_next ?_
      refine run_seq (run_dropQ (run_callM (F := fun t => F s' t) (s := s) (b, e, (R', s.1.2)) (L.s s') (by show s.2.length ≤ 900; omega) s6.2 fr6 (ts := [Ty.is (.ref b), tRows R', tStand s.1.2.1, tHist s.1.2.2]) (EVA.cons (EV.var rfl) (EVA.cons (EV.call (s.1.1, pp, x) (EVA.cons (EV.s0 hs5 (EV.var rfl)) (EVA.cons (EV.var rfl) (EVA.cons (EV.var rfl) EVA.nil))) ⟨ho.1, hp⟩) (EVA.cons (EV.s1 hs5 (EV.var rfl)) (EVA.cons (EV.s2 hs5 (EV.var rfl)) EVA.nil)))) fun v H7 ok7 x7 r7 => ?_))
      have ok7 : (F s' ((R', s.1.2), s.2 ++ [s.1])).ok H7 := ok7
      have x7 : Xt ((F s' s).v H6) ((F s' ((R', s.1.2), s.2 ++ [s.1])).v H7) := x7
      rw [hs'] at ok7 x7
      refine run_ret (W := F s' s') (EV.op (EV.var (i := 5) (T := tS "let") rfl) EV.cst (RV.Eq rfl)) ok7 (fr6.mo x7) fun v H8 s8 p8 => ?_
      cases p8
      have := kq s' H8 hD' s8.2 ((((s14.1.trans x5).trans s6.1).trans x7).trans s8.1)
      rw [dT]; exact this
  · have hno : (allowR s.1 pp x).map (fun t => (t, s.2 ++ [s.1])) = none := hno
    unfold allowR at hno
    by_cases hm : x ∈ s.1.1.getD pp []
    · have fr5 := (fr4.mo s5.1).set (T := tS "not open") (v := .str "not open") rfl 5
      refine run_ifb (W := F s s) (b := true) (EVT.eq (EVT.B (EV.op (EV.var (i := 4) rfl) (EV.ixT (EV.s0 hs (EV.var rfl)) (EV.var (i := 3) rfl) rfl (by rw [List.getElem?_map, getD_some (z := ([] : List Nat)) hp]; rfl)) RV.inTN)) (decide_eq_true hm)) s5.2 fr5 (fun _ H6 s6 fr6 => run_retSeqQ ?_) fun h => by cases h
      refine run_ev (W := F s s) (EV.op (EV.var (i := 5) (T := tS "not open") rfl) EV.cst (RV.Eq rfl)) s6.2 fr6 fun v H8 s8 p8 _ => ?_
      cases p8
      have := kq s H8 (hk.mono (Nat.le_succ _)) s8.2 (((s14.1.trans s5.1).trans s6.1).trans s8.1)
      rw [dT]; exact this
    · rw [if_neg hm] at hno; cases hno
theorem ok_law_one_deed (T : Tp K mg) : FnOk P w K mg base CX0 13 T.law_one_deed.a T.law_one_deed.fd p_law_one_deed (spDeed T) := by
  refine T.law_one_deed.F.ok sc_law_one_deed (fun vs H Q E h => ?_) (fun cdv A outer sh H vs Q E hr h => ?_)
  · obtain ⟨F, p, c, a, pl, b, e, R, k, s, _, _, _, _, rfl, _⟩ := h
    rfl
  obtain ⟨F, p, c, a, pl, b, e, R, k, s, L, hk, h8, ok, rfl, kq⟩ := h
  have nd := sc_law_one_deed.nd
  refine ⟨_, (pss_cons (ps_set (i := 3) nd rfl (Or.inl rfl) (pe_call (ok_law_draw T) (hr.mono (by first | decide | omega)) rfl T.law_draw.m T.law_draw.F.kp T.law_draw.b .nil pass0 (pa_cons (pv 0) (pa_cons pe_int pa_nil)))) (pss_cons (ps_if (pt_cmpR op_lt (pv 3) pe_int (nomark _)) (pss_one (ps_ret (pe_call (ok_law_strikes T) (hr.mono (by first | decide | omega)) rfl T.law_strikes.m T.law_strikes.F.kp T.law_strikes.b .nil pass0 (pa_cons (pv 0) (pa_cons (pv 1) (pa_cons (pv 2) pa_nil)))))) pss_nil) (pss_cons (ps_if (pt_cmpR op_lt (pv 3) pe_int (nomark _)) (pss_one (ps_ret (pe_call (ok_law_allows T) (hr.mono (by first | decide | omega)) rfl T.law_allows.m T.law_allows.F.kp T.law_allows.b .nil pass0 (pa_cons (pv 0) (pa_cons (pv 1) (pa_cons (pv 2) pa_nil)))))) pss_nil) (pss_cons (ps_set (i := 4) nd rfl (Or.inl rfl) (pe_call (ok_law_comers T) (hr.mono (by first | decide | omega)) rfl T.law_comers.m T.law_comers.F.kp T.law_comers.b .nil pass0 (pa_cons (pe_ix ix_list (pv 2) pe_int (fun _ _ => rfl)) pa_nil))) (pss_cons (ps_if (PW.pt (pw_and (pt_cmpR op_lt (pv 3) pe_int (nomark _)) (pw_and1 (pt_cmpR op_gt (pe_callB call_len_seq (by rfl) T.b_len PySem.boot_len (pa_cons (pv 4) pa_nil)) pe_int (nomark _))))) (pss_cons (ps_set (i := 5) nd rfl (Or.inl rfl) (pe_ix ix_list (pv 4) (pe_call (ok_law_draw T) (hr.mono (by first | decide | omega)) rfl T.law_draw.m T.law_draw.F.kp T.law_draw.b .nil pass0 (pa_cons (pv 0) (pa_cons (pe_callB call_len_seq (by rfl) T.b_len PySem.boot_len (pa_cons (pv 4) pa_nil)) pa_nil))) (fun _ _ => rfl))) (pss_cons (ps_set (i := 6) nd rfl (Or.inl rfl) (pe_call (ok_law_choices T) (hr.mono (by first | decide | omega)) rfl T.law_choices.m T.law_choices.F.kp T.law_choices.b .nil pass0 (pa_cons (pe_call (ok_law_deals T) (hr.mono (by first | decide | omega)) rfl T.law_deals.m T.law_deals.F.kp T.law_deals.b .nil pass0 (pa_cons (pv 2) pa_nil)) (pa_cons (pv 5) pa_nil)))) (pss_cons (ps_set (i := 7) nd rfl (Or.inl rfl) (pe_ix ix_list (pv 6) (pe_call (ok_law_draw T) (hr.mono (by first | decide | omega)) rfl T.law_draw.m T.law_draw.F.kp T.law_draw.b .nil pass0 (pa_cons (pv 0) (pa_cons (pe_callB call_len_seq (by rfl) T.b_len PySem.boot_len (pa_cons (pv 6) pa_nil)) pa_nil))) (fun _ _ => rfl))) (pss_cons (ps_expr (pe_call (ok_law_draws T) (hr.mono (by first | decide | omega)) rfl T.law_draws.m T.law_draws.F.kp T.law_draws.b .nil pass0 (pa_cons (pv 2) (pa_cons (pv 5) (pa_cons (pv 7) pa_nil))))) (pss_one (ps_ret (pe_cmp (pc_isN (pe_meth (pv 1) T.Draw.cl T.Draw_draw.mt (ok_Draw_draw T) (hr.mono (by first | decide | omega)) T.Draw_draw.b .nil pass0 (pa_cons (pv 5) (pa_cons (pv 7) pa_nil))))))))))) pss_nil) (pss_cons (ps_if (pt_cmpR op_gt (pe_callB call_len_seq (by rfl) T.b_len PySem.boot_len (pa_cons (pe_ix ix_list (pv 2) pe_int (fun _ _ => rfl)) pa_nil)) pe_int (nomark _)) (pss_cons (ps_expr (pe_call (ok_law_go_back T) (hr.mono (by first | decide | omega)) rfl T.law_go_back.m T.law_go_back.F.kp T.law_go_back.b .nil pass0 (pa_cons (pv 2) pa_nil))) (pss_one (ps_ret (pe_cmp (pc_isN (pe_meth0 (pv 1) T.Draw.cl T.Draw_back.mt (ok_Draw_back T) (hr.mono (by first | decide | omega)) T.Draw_back.b .nil pass0)))))) pss_nil) (pss_one (ps_ret pe_bl)))))))), ?_⟩
  have fr : Fr ((F s s).v H) [some (Ty.is (.ref p)), some (Ty.is (.ref a)), some (Ty.is (.ref b)), none, none, none, none, none] (L2.start n_law_one_deed [.ref p, .ref a, .ref b]) := ⟨rfl, rfl, rfl, trivial⟩
  have hs : HasS b e s (F s s) := (L.s s).has
  have hg := hk.now
  have ho := hg.ok
  have few := hk.few
  have his := hk.hist
  refine run_asgE (EV.draw (m := 8) (L.p s s) (by decide) (by decide) (EV.var rfl) EV.cst) ok fr fun kind v1 H1 hkind s1 p1 fr1 => ?_
  refine run_ifb (W := F s s) (EVT.B (EV.op (EV.var (i := 3) rfl) EV.cst RV.I0)) s1.2 fr1 (fun _ H2 s2 fr2 => run_retSeqQ (run_call (EVA.cons (EV.var (i := 0) rfl) (EVA.cons (EV.var (i := 1) rfl) (EVA.cons (EV.var (i := 2) rfl) EVA.nil))) s2.2 fr2 fun vs H3 s3 al3' fr3 => ⟨F, p, c, a, pl, b, e, R, k, s, L, hk, h8, s3.2, al3 al3', fun s' H' d o x => kq s' H' d o (((s1.trans s2).trans s3).1.trans x)⟩)) fun _ H2 s2 fr2 => run_next ?_
  refine run_ifb (W := F s s) (EVT.B (EV.op (EV.var (i := 3) rfl) EV.cst RV.I0)) s2.2 fr2 (fun _ H3 s3 fr3 => run_retSeqQ (run_call (EVA.cons (EV.var (i := 0) rfl) (EVA.cons (EV.var (i := 1) rfl) (EVA.cons (EV.var (i := 2) rfl) EVA.nil))) s3.2 fr3 fun vs H4 s4 al3' fr4 => ⟨F, p, c, a, pl, b, e, R, k, s, L, hk, h8, s4.2, al3 al3', fun s' H' d o x => kq s' H' d o ((((s1.trans s2).trans s3).trans s4).1.trans x)⟩)) fun _ H3 s3 fr3 => run_next ?_
  refine run_asg (EV.call s.1.2.1 (EVA.cons (EV.s1 hs (EV.var rfl)) EVA.nil) ho.l4) s3.2 fr3 fun v4 H4 s4 p4 fr4 => ?_
  have s14 := ((s1.trans s2).trans s3).trans s4
  have wl : (waiting s.1.2.1).length ≤ 1000 := by
    have h1 := List.length_filter_le (fun i => decide (s.1.2.1.getD i none = none)) (List.range s.1.2.1.length)
    have h2 := List.length_filter_le (fun x => !decide (some x ∈ s.1.2.1)) (List.range s.1.2.1.length)
    have h3 := ho.l4
    rw [List.length_range] at h1 h2
    unfold waiting und unu
    rw [List.length_append, List.length_map, List.length_map]
    omega
  refine run_ifb (W := F s s) (EVT.and (EVT.B (EV.op (EV.var (i := 3) rfl) EV.cst RV.I0)) fun _ => EVT.B (EV.op (EV.eq (EV.cb (EVA.cons (EV.var (i := 4) rfl) EVA.nil) RC.lenL) (by rw [List.length_map])) EV.cst RV.I0)) s4.2 fr4 (fun hb H5 s5 fr5 => ?_) fun _ H5 s5 fr5 => run_next ?_
  · have hw : 0 < (waiting s.1.2.1).length := by
      have := (Bool.and_eq_true_iff.mp hb).2
      have := of_decide_eq_true this
      omega
    refine run_assoc (run_asgE (EV.ixLE (L := waiting s.1.2.1) (f := tComer) (EV.var (i := 4) rfl) (EV.draw (L.p s s) hw wl (EV.var (i := 0) rfl) (EV.eq (EV.cb (EVA.cons (EV.var (i := 4) rfl) EVA.nil) RC.lenL) (by rw [List.length_map])))) s5.2 fr5 fun cm v6 H6 hc s6 p6 fr6 => ?_)
    have hc : cm ∈ waiting s.1.2.1 := hc
    have hch := chs_ok hg.rows hg.st hc
    have hcl := chs_len ho hc
    have hcn : 0 < (chs s.1 cm).length := by
      obtain ⟨d, hd⟩ := List.exists_mem_of_ne_nil _ hg.any
      exact List.length_pos_of_mem ((hch.mem _).mpr (List.mem_map.mpr ⟨d, hd, rfl⟩))
    refine run_assoc (run_asg (EV.call (deals s.1, cm, chs s.1 cm) (EVA.cons (EV.callG (b, e, s, ()) ⟨hs, ho⟩ (EVA.cons (EV.var (i := 2) rfl) EVA.nil)) (EVA.cons (EV.var (i := 5) rfl) EVA.nil)) hch) s6.2 fr6 fun v7 H7 s7 p7 fr7 => ?_)
    refine run_assoc (run_asgE (EV.ixLE (L := chs s.1 cm) (f := tN) (EV.var (i := 6) rfl) (EV.draw (L.p s s) hcn (by omega) (EV.var (i := 0) rfl) (EV.eq (EV.cb (EVA.cons (EV.var (i := 6) rfl) EVA.nil) RC.lenL) (by rw [List.length_map])))) s7.2 fr7 fun ch v8 H8 hch2 s8 p8 fr8 => ?_)
    have hch2 : ch ∈ chs s.1 cm := hch2
    have hp1 : (pairOf cm ch).1 < s.1.1.length := by
      unfold pairOf
      split
      · exact ho.lt hc
      · exact chs_lt ho hc hch2
    let s' : DSt := (drawS s.1 cm ch, s.2 ++ [s.1])
    have s18 := (((s14.trans s5).trans s6).trans s7).trans s8
    refine run_assoc (run_seq (run_dropQ (run_callM (F := fun t => F s t) (s := s) (b, e, cm, ch) (L.s s) ⟨ho, hp1, by omega, by omega⟩ s8.2 fr8 (EVA.cons (EV.var (i := 2) rfl) (EVA.cons (EV.var (i := 5) rfl) (EVA.cons (EV.var (i := 7) rfl) EVA.nil))) fun v9 H9 ok9 x9 r9 => ?_)))
    have ok9 : (F s s').ok H9 := ok9
    have x9 : Xt ((F s s).v H8) ((F s s').v H9) := x9
    have hd9 : HasD T a pl s (F s s') := (L.d s').has
    refine run_retSeqQ (run_isN (run_methM (F := fun t => F t s') (s := s) (a, pl, cm, ch) (L.d s') ⟨ho, hc, hch2, by omega, by omega⟩ ok9 (fr8.mo x9) (EV.var (i := 1) rfl) (hd9.ins (by decide +kernel)) (EVA.cons (EV.var (i := 5) rfl) (EVA.cons (EV.var (i := 7) rfl) EVA.nil)) fun vA HA okA xA rA => ?_))
    cases rA
    have := kq s' HA (hk.on (hg.draw hc hch2) (by show (s.1.2.2 ++ [_]).length ≤ k + 1; rw [List.length_append]; show _ + 1 ≤ _; omega)) okA ((s18.1.trans x9).trans xA)
    rw [dT]; exact this
  · refine run_ifb (W := F s s) (EVT.B (EV.op (EV.lenElders hs (EV.var (i := 2) rfl)) EV.cst RV.I0)) s5.2 fr5 (fun hb H6 s6 fr6 => ?_) fun _ H6 s6 fr6 => run_next ?_
    · have hne : s.2 ≠ [] := fun z => by
        have := of_decide_eq_true hb
        rw [z] at this
        simp at this
      let s' : DSt := (lastOr s, s.2.dropLast)
      refine run_assoc (run_seq (run_dropQ (run_callM (F := fun t => F s t) (s := s) (b, e, ()) (L.s s) hne s6.2 fr6 (EVA.cons (EV.var (i := 2) rfl) EVA.nil) fun v9 H9 ok9 x9 r9 => ?_)))
      have ok9 : (F s s').ok H9 := ok9
      have x9 : Xt ((F s s).v H6) ((F s s').v H9) := x9
      have hd9 : HasD T a pl s (F s s') := (L.d s').has
      refine run_retSeqQ (run_isN (run_meth0M (F := fun t => F t s') (s := s) (a, pl, ()) (L.d s') hne ok9 (fr6.mo x9) (EV.var (i := 1) rfl) (hd9.ins (by decide +kernel)) fun vA HA okA xA rA => ?_))
      cases rA
      have := kq s' HA ((hk.back hne).mono (Nat.le_succ _)) okA ((((s14.trans s5).trans s6).1.trans x9).trans xA)
      rw [dT]; exact this
    · refine run_ret (W := F s s) EV.cst s6.2 fr6 fun v H7 s7 p7 => ?_
      cases p7
      exact kq s H7 (hk.mono (Nat.le_succ _)) s7.2 ((((s14.trans s5).trans s6).trans s7).1)
end
end Fo
set_option Elab.async false
set_option linter.all false
set_option maxRecDepth 100000
/-! Rules for the making of rows; the plain part of it. -/
namespace Fo
open PySem PySem.Spec PyProof.Rows L2
/-! ### plain -/
def sortU (l : List Nat) : List Nat := l.foldr (fun x acc => insR acc x) []
theorem sortU_asc : ∀ l : List Nat, (sortU l).Pairwise (· < ·)
  | [] => List.Pairwise.nil
  | x :: l => ins_asc (sortU_asc l)
theorem sortU_mem {y : Nat} : ∀ {l : List Nat}, y ∈ sortU l ↔ y ∈ l
  | [] => Iff.rfl
  | x :: l => by
    show y ∈ insR (sortU l) x ↔ _
    rw [ins_mem, sortU_mem, List.mem_cons]
theorem sortU_perm {l : List Nat} (h : l.Nodup) : (sortU l).Perm l := (List.perm_ext_iff_of_nodup ((sortU_asc l).imp fun h => Nat.ne_of_lt h) h).mpr fun y => sortU_mem
/-- lists that stand for a table of n people that has a dealing -/
structure LRok (n : Nat) (R : List (List Nat)) : Prop where
  len : R.length = n
  nd : ∀ r ∈ R, r.Nodup
  lt : ∀ r ∈ R, ∀ x ∈ r, x < n
  deal : ∃ d : List Nat, d.length = n ∧ d.Nodup ∧ ∀ k, k < n → d.getD k 0 ∈ R.getD k []
structure BlkOk (n i : Nat) (R : List (List Nat)) : Prop where
  len : R.length = i
  nd : ∀ r ∈ R, r.Nodup
  lt : ∀ r ∈ R, ∀ x ∈ r, x < n
  own : ∀ k, k < i → k ∈ R.getD k []
theorem BlkOk.lr {n : Nat} {R : List (List Nat)} (h : BlkOk n n R) : LRok n R := ⟨h.len, h.nd, h.lt, List.range n, List.length_range, List.nodup_range, fun k hk => by
  have e : (List.range n).getD k 0 = k := by rw [List.getD_eq_getElem?_getD, List.getElem?_range hk]; rfl
  rw [e]
  exact h.own k hk⟩
theorem mem_getD' {R : List (List Nat)} {k : Nat} (hk : k < R.length) : R.getD k [] ∈ R := by
  rw [List.getD_eq_getElem?_getD, List.getElem?_eq_getElem hk]
  exact List.getElem_mem hk
theorem BlkOk.app {n i w : Nat} {R : List (List Nat)} (h : BlkOk n i R) (hw : i + w ≤ n) : BlkOk n (i + w) (R ++ List.replicate w ((List.range w).map fun j => i + j)) := by
  have nd : ((List.range w).map fun j => i + j).Nodup := by
    unfold List.Nodup
    rw [List.pairwise_map]
    exact (List.nodup_range (n := w)).imp fun hab e => hab (by omega)
  have lt : ∀ x ∈ (List.range w).map fun j => i + j, x < n := fun x hx => by
    obtain ⟨j, hj, rfl⟩ := List.mem_map.mp hx
    have := List.mem_range.mp hj
    omega
  refine ⟨by rw [List.length_append, List.length_replicate, h.len], fun r hr => ?_, fun r hr => ?_, fun k hk => ?_⟩
  · rcases List.mem_append.mp hr with hr | hr
    · exact h.nd r hr
    · rw [(List.mem_replicate.mp hr).2]; exact nd
  · rcases List.mem_append.mp hr with hr | hr
    · exact h.lt r hr
    · rw [(List.mem_replicate.mp hr).2]; exact lt
  · rw [List.getD_eq_getElem?_getD]
    by_cases q : k < i
    · rw [List.getElem?_append_left (by rw [h.len]; exact q), ← List.getD_eq_getElem?_getD]
      exact h.own k q
    · rw [List.getElem?_append_right (by rw [h.len]; omega), h.len, List.getElem?_replicate, if_pos (by omega)]
      exact List.mem_map.mpr ⟨k - i, List.mem_range.mpr (by omega), by omega⟩
theorem getD_setR' {R : List (List Nat)} {p q : Nat} {r : List Nat} (hp : p < R.length) : (R.set p r).getD q [] = if q = p then r else R.getD q [] := getD_setR hp
theorem BlkOk.put {n i p : Nat} {R : List (List Nat)} {r : List Nat} (h : BlkOk n i R) (hp : p < R.length) (h1 : r.Nodup) (h2 : ∀ x ∈ r, x < n) (h3 : p ∈ r) : BlkOk n i (R.set p r) := by
  refine ⟨by rw [List.length_set]; exact h.len, fun q hq => ?_, fun q hq => ?_, fun k hk => ?_⟩
  · rcases List.mem_or_eq_of_mem_set hq with hq | e
    · exact h.nd q hq
    · rw [e]; exact h1
  · rcases List.mem_or_eq_of_mem_set hq with hq | e
    · exact h.lt q hq
    · rw [e]; exact h2
  · rw [getD_setR hp]
    by_cases e : k = p
    · rw [if_pos e, e]; exact h3
    · rw [if_neg e]; exact h.own k hk
theorem LRok.put {n p : Nat} {R : List (List Nat)} {r : List Nat} (h : LRok n R) (hp : p < R.length) (h1 : r.Nodup) (h2 : ∀ x ∈ r, x < n) (h3 : ∀ x ∈ R.getD p [], x ∈ r) : LRok n (R.set p r) := by
  refine ⟨by rw [List.length_set]; exact h.len, fun q hq => ?_, fun q hq => ?_, ?_⟩
  · rcases List.mem_or_eq_of_mem_set hq with hq | e
    · exact h.nd q hq
    · rw [e]; exact h1
  · rcases List.mem_or_eq_of_mem_set hq with hq | e
    · exact h.lt q hq
    · rw [e]; exact h2
  · obtain ⟨d, d1, d2, d3⟩ := h.deal
    refine ⟨d, d1, d2, fun k hk => ?_⟩
    rw [getD_setR hp]
    by_cases e : k = p
    · rw [if_pos e, e]
      exact h3 _ (d3 p (by rw [← h.len]; exact hp))
    · rw [if_neg e]; exact d3 k hk
theorem perm_range {n : Nat} {l : List Nat} (h : l.Perm (List.range n)) : l.length = n ∧ l.Nodup ∧ ∀ x ∈ l, x < n := ⟨by rw [h.length_eq, List.length_range], h.nodup_iff.mpr List.nodup_range, fun x hx => List.mem_range.mp (h.mem_iff.mp hx)⟩
theorem getD_inj {l : List Nat} (h : l.Nodup) {i j : Nat} (hi : i < l.length) (hj : j < l.length) (e : l.getD i 0 = l.getD j 0) : i = j := by
  rw [List.getD_eq_getElem?_getD, List.getD_eq_getElem?_getD, List.getElem?_eq_getElem hi, List.getElem?_eq_getElem hj] at e
  exact (List.getElem_inj h).mp e
theorem getD_mem {l : List Nat} {i : Nat} (hi : i < l.length) : l.getD i 0 ∈ l := by
  rw [List.getD_eq_getElem?_getD, List.getElem?_eq_getElem hi]
  exact List.getElem_mem hi
theorem map_nd {α β : Type} {f : α → β} {l : List α} (h : l.Nodup) (inj : ∀ a ∈ l, ∀ b ∈ l, f a = f b → a = b) : (l.map f).Nodup := by
  unfold List.Nodup
  rw [List.pairwise_map]
  exact h.imp_of_mem fun {a b} ha hb hab e => hab (inj a ha b hb e)
def finR (R : List (List Nat)) (places order : List Nat) : List (List Nat) := order.map fun k => sortU ((R.getD k []).map fun x => places.getD x 0)
theorem fin_nd {n : Nat} {R : List (List Nat)} {places : List Nat} (h : LRok n R) (hp : places.Perm (List.range n)) {k : Nat} (hk : k < n) : ((R.getD k []).map fun x => places.getD x 0).Nodup := by
  obtain ⟨p1, p2, p3⟩ := perm_range hp
  have hm := mem_getD' (R := R) (k := k) (by rw [h.len]; exact hk)
  exact map_nd (h.nd _ hm) fun a ha b hb e => getD_inj p2 (by rw [p1]; exact h.lt _ hm a ha) (by rw [p1]; exact h.lt _ hm b hb) e
theorem fin_ok {n : Nat} {R : List (List Nat)} {places order : List Nat} (h : LRok n R) (h1 : 1 ≤ n) (h4 : n ≤ 4) (hp : places.Perm (List.range n)) (ho : order.Perm (List.range n)) : RowsOk (finR R places order) ∧ ∃ d, Deal (finR R places order) d := by
  obtain ⟨p1, p2, p3⟩ := perm_range hp
  obtain ⟨o1, o2, o3⟩ := perm_range ho
  have len : (finR R places order).length = n := by unfold finR; rw [List.length_map, o1]
  refine ⟨⟨by omega, by omega, fun r hr => ?_⟩, ?_⟩
  · obtain ⟨k, hk, rfl⟩ := List.mem_map.mp hr
    refine ⟨sortU_asc _, fun x hx => ?_⟩
    rw [sortU_mem] at hx
    obtain ⟨y, hy, rfl⟩ := List.mem_map.mp hx
    have hm := mem_getD' (R := R) (k := k) (by rw [h.len]; exact o3 k hk)
    have := h.lt _ hm y hy
    rw [len]
    exact p3 _ (getD_mem (by omega))
  · obtain ⟨d, d1, d2, d3⟩ := h.deal
    refine ⟨order.map fun k => places.getD (d.getD k 0) 0, by rw [List.length_map, o1, len], ?_, fun q hq => ?_⟩
    · have dl : ∀ k, k < n → d.getD k 0 < n := fun k hk => h.lt _ (mem_getD' (by rw [h.len]; exact hk)) _ (d3 k hk)
      refine map_nd o2 fun a ha b hb e => ?_
      have ha := o3 a ha
      have hb := o3 b hb
      exact getD_inj d2 (by omega) (by omega) (getD_inj p2 (by rw [p1]; exact dl a ha) (by rw [p1]; exact dl b hb) e)
    · rw [len] at hq
      have hq' : q < order.length := by omega
      have e1 : (order.map fun k => places.getD (d.getD k 0) 0).getD q 0 = places.getD (d.getD order[q] 0) 0 := by
        rw [List.getD_eq_getElem?_getD, List.getElem?_map, List.getElem?_eq_getElem hq']; rfl
      have e2 : (finR R places order).getD q [] = sortU ((R.getD order[q] []).map fun x => places.getD x 0) := by
        unfold finR
        rw [List.getD_eq_getElem?_getD, List.getElem?_map, List.getElem?_eq_getElem hq']; rfl
      rw [e1, e2, sortU_mem]
      exact List.mem_map.mpr ⟨_, d3 _ (o3 _ (List.getElem_mem hq')), rfl⟩
theorem max_ex : ∀ {l : List Nat}, 0 < l.length → ∃ m, m ∈ l ∧ ∀ y ∈ l, y ≤ m
  | [a], _ => ⟨a, List.mem_cons_self, fun y hy => by rw [List.mem_singleton.mp hy]; exact Nat.le_refl _⟩
  | a :: b :: l, _ => by
    obtain ⟨m, h1, h2⟩ := max_ex (l := b :: l) (Nat.succ_pos _)
    by_cases h : a ≤ m
    · exact ⟨m, List.mem_cons_of_mem _ h1, fun y hy => by
        rcases List.mem_cons.mp hy with e | hy
        · rw [e]; exact h
        · exact h2 y hy⟩
    · exact ⟨a, List.mem_cons_self, fun y hy => by
        rcases List.mem_cons.mp hy with e | hy
        · rw [e]; exact Nat.le_refl _
        · have := h2 y hy; omega⟩
/-! ### rules -/
abbrev tLr (r : List Nat) : Ty := Ty.lst (r.map tN)
section
variable {K : PySem.W.Frag} {W : Wd} {G : Ctx} {te ta tb tv ti : TE} {T U S : Ty} {ts : List Ty} {t u : TS} {σ : L2.St} {H : Hp} {D : Ends} {w : World}
theorem run_join (Inv : L2.St → Hp → Prop) (h : ∀ N : L2.St → Hp → Prop, (∀ σ' H', Inv σ' H' → N σ' H') → t { D with nx := N } σ H) (k : ∀ σ' H', Inv σ' H' → u D σ' H') : tSeq t u D σ H := h (u D) k
theorem RV.pR {β : Type} {p : β → Prop} {f : β → Ty} {r : R2} (h : ∀ b, p b → RV W r T (f b) S) : RV W r T (Ty.exP p f) S := ⟨fun ok px ⟨b, hb, py⟩ k => (h b hb).run ok px py k⟩
theorem RC.pA {β : Type} {p : β → Prop} {f g : β → Ty} {r : List V → Hp → VK → Prop} (h : ∀ b, p b → RC W r [f b] (g b)) : RC W r [Ty.exP p f] (Ty.exP p g) := ⟨fun {vs H Q} ok al k => by
  obtain ⟨v, rfl, b, hb, pb⟩ := al1 al
  exact (h b hb).run ok ⟨pb, trivial⟩ fun v' H' s p => k v' H' s ⟨b, hb, p⟩⟩
theorem EV.lstE {β : Type} {p : β → Prop} {f : β → Ty} (h : EV W G te (Ty.exP p f)) : EV W G (tLst (tCons te tNil)) (Ty.exP p fun b => Ty.lst [f b]) := ⟨fun ok fr k => (EV.lst (EVA.cons h EVA.nil) (by show 1 ≤ 1000; decide)).run ok fr fun v H' s p => by
  obtain ⟨a, vs, e, e1, al⟩ := p
  match vs, al with
  | [x], ⟨⟨b, hb, pb⟩, _⟩ => exact k v H' s ⟨b, hb, a, [x], e, e1, pb, trivial⟩⟩
theorem RC.min2 {i j : Int} : RC W (fun xs H Q => ∃ i j, xs = [.int i, .int j] ∧ Q (.int (if j < i then j else i)) H) [tInt i, tInt j] (tInt (if j < i then j else i)) := ⟨fun {vs H Q} ok al k => by
  obtain ⟨x, y, rfl, e1, e2⟩ := al2 al
  cases e1; cases e2
  exact ⟨i, j, rfl, k _ _ ok.st rfl⟩⟩
theorem RC.maxN {r : List Nat} {m : Nat} (h0 : 0 < r.length) (hm : m ∈ r ∧ ∀ y ∈ r, y ≤ m) : RC W (rMax K) [tLr r] (tN m) := by
  have h := RC.max (W := W) (K := K) (ns := r.map fun n : Nat => (n : Int)) (m := (m : Int)) (by rwa [List.length_map]) fun k hk hall => by
    obtain ⟨n, hn, rfl⟩ := List.mem_map.mp hk
    have h1 := hm.2 n hn
    have h2 := hall (m : Int) (List.mem_map.mpr ⟨m, hm.1, rfl⟩)
    omega
  unfold lstF at h
  rw [List.map_map, List.map_map] at h
  exact h
theorem EV.draw1 {E : XK} {p c : Addr} {m : Nat} (L : LensP p c W) (h0 : 0 < m) (h1 : m ≤ 1000) (ha : EV W G ta (Ty.is (.ref p))) (hb : EV W G tb (tN m)) : EV W G (tOp (rI0 fun i j => .int (i + j)) (tC (.int 1)) (tCall spDraw [] E (tCons ta (tCons tb tNil)))) (Ty.exP (fun r => 1 ≤ r ∧ r ≤ m) tN) :=
  EV.op EV.cst (EV.draw L h0 h1 ha hb) (RV.pR fun b hb => (RV.I0 (g := fun i j => .int (i + j)) (i := 1) (j := (b : Int))).to fun H v q => ⟨1 + b, ⟨by omega, by omega⟩, by
    show v = V.int ((1 + b : Nat) : Int)
    rw [Int.natCast_add]; exact q⟩)
theorem LensP.ls {p c L : Addr} (h : LensP p c W) (hL : L ∉ W.M) : LensP p c (W.ls L ts) := Lens.cell (s := ()) h fun x hx => by rw [List.mem_singleton.mp hx]; exact hL
theorem LensP.own {p c L : Addr} {o : HO} (h : LensP p c W) (hL : L ∉ W.M) : LensP p c (W.own L o trivial) := Lens.own (s := ()) h hL
/-- l[i] = e, l hidden, e not known -/
theorem run_setHE {β : Type} {p : β → Prop} {f : β → Ty} {L : Addr} {i j : Nat} (hL : L ∉ W.M) (ok : (W.ls L ts).ok H) (fr : Fr ((W.ls L ts).v H) G σ) (hj : G[j]? = some (some (Ty.is (.ref L)))) (hv : EV (W.ls L ts) G tv (Ty.exP p f)) (hi : EV (W.ls L ts) G ti (tN i)) (hil : i < ts.length)
    (k : ∀ b H', p b → (W.ls L (ts.set i (f b))).ok H' → Xt ((W.ls L ts).v H) ((W.ls L (ts.set i (f b))).v H') → Fr ((W.ls L (ts.set i (f b))).v H') G σ → D.nx σ H') : tAsg tv (gSub (tVar j) ti rSetL) D σ H :=
  hv.run ok fr fun z H1 s1 pz => (EV.var (W := W.ls L ts) hj).run s1.2 (fr.mo s1.1) fun o H2 s2 po => hi.run s2.2 (fr.mo (s1.trans s2).1) fun y H3 s3 py => by
    cases po; cases py
    obtain ⟨b, hb, pz⟩ := pz
    have s := (s1.trans s2).trans s3
    obtain ⟨h1, acc, e, al⟩ := id s3.2
    obtain ⟨ok4, v4⟩ := s3.2.lsPut hL (Al.set (T := f b) ((f b).mo (s2.trans s3).1 pz) i al)
    refine ⟨L, acc, (i : Int), i, rfl, rfl, e, ?_, k b _ hb ok4 ?_ ?_⟩
    · have : i < acc.length := by rw [← al.len]; exact hil
      unfold ixN
      rw [if_pos (by omega), if_pos (by omega), Int.toNat_natCast]
    · rw [v4]; exact s.1
    · rw [v4]; exact fr.mo s.1
theorem RC.sortS {ns : List Nat} (hn : ns.length < 64) : RC W (rSortedSet w) [Ty.setN w ns] (tLr (sortU ns)) := RC.sortedSetN hn (sortU_asc ns) fun k => sortU_mem
theorem cat1 (r : List Nat) (x : Nat) : Ty.lst (r.map tN ++ [tN x]) = tLr (r ++ [x]) := by
  show _ = Ty.lst ((r ++ [x]).map tN)
  rw [List.map_append]; rfl
theorem EV.addN {a b : Nat} (ha : EV W G ta (tN a)) (hb : EV W G tb (tN b)) : EV W G (tOp (rI0 fun i j => .int (i + j)) ta tb) (tN (a + b)) := EV.eq (EV.op ha hb RV.I0) (by show Ty.is _ = Ty.is _; rw [Int.natCast_add])
end
end Fo
set_option Elab.async false
set_option linter.all false
set_option maxRecDepth 100000
set_option maxHeartbeats 2000000
namespace Fo
open PySem PySem.Spec PyProof.Rows L2
local macro_rules | `(tactic| walk_at "ev") => `(tactic| first
  | ((with_reducible apply EV.var); rfl)
  | (with_reducible exact EV.cst)
  | (with_reducible exact EVA.nil)
  | (with_reducible exact EVO.none)
  | ((with_reducible apply EVO.some); (· walk_at "ev"))
  | ((with_reducible apply EVA.cons); (· walk_at "ev"); (· walk_at "ev"))
  | ((with_reducible apply EV.op); (· walk_at "ev"); (· walk_at "ev"); (· walk_at "rv"))
  | ((with_reducible apply EV.un); (· walk_at "ev"); (· exact RU.neg))
  | ((with_reducible apply EV.chain); (· walk_at "ev"); (· walk_at "ev"); (· walk_at "rv"); (· walk_at "ev"); (· walk_at "rv"))
  | ((with_reducible apply EV.cb); (· walk_at "ev"); (· walk_at "rv"))
  | ((with_reducible apply EV.bits); (· walk_at "ev"))
  | ((with_reducible apply EV.slT); (· walk_at "ev"); (· walk_at "ev"); (· walk_at "ev"))
  | ((with_reducible apply EV.isN); (· walk_at "ev"))
  | ((with_reducible apply EV.notN); (· walk_at "ev"))
  | ((with_reducible apply EV.notV); (· walk_at "ev"))
  | ((with_reducible apply EV.andV); (· walk_at "ev"); (· intro _; walk_at "ev"))
  | ((with_reducible apply EVT.test); (· walk_at "ev"))
  | ((with_reducible apply EVT.B); (· walk_at "ev"))
  | ((with_reducible apply EVT.not); (· walk_at "ev"))
  | ((with_reducible apply EV.tup); (· walk_at "ev"); (· decide))
  | ((with_reducible apply EV.lst); (· walk_at "ev"); (· decide))
  | ((with_reducible apply EVI.list); (· walk_at "ev"))
  | ((with_reducible apply EVI.tup); (· walk_at "ev"))
  | ((with_reducible apply EVI.enum); (· walk_at "ev"))
  | ((with_reducible apply EVI.enumT); (· walk_at "ev"))
  | ((with_reducible apply EVI.zipT); (· walk_at "ev"); (· walk_at "ev")))
local macro_rules | `(tactic| walk_at "rv") => `(tactic| first
  | exact RV.I0
  | exact RV.oneShl (by decide)
  | exact RV.shrN
  | exact RV.odd
  | exact RC.isi_ii
  | exact RC.isi_ib
  | exact RC.isi_tt
  | exact RC.isi_ss
  | exact RC.lenT
  | exact RC.lenL
  | exact RC.sumF
  | exact RC.allF
  | exact RV.inTN
  | exact RV.inLN
  | exact RV.inTO
  | exact RC.tupOf
  | exact RC.lstOfT
  | exact RC.lstOfL
  | exact RC.int
  | exact RC.intB
  | exact RC.abs
  | exact RV.Eq rfl
  | exact RV.Ne rfl)
/-! ## blocks -/
section
variable {P : Program} {w : World} {K : PySem.W.Frag} {mg : Str → Option Value} {base : Heap}
def spBlocks : Sp := fun vs H Q _ => ∃ (W : Wd) (p c : Addr) (n : Nat), LensP p c W ∧ 1 ≤ n ∧ n ≤ 4 ∧ W.ok H ∧ vs = [.ref p, nV n] ∧
  ∀ L R' H', BlkOk n n R' → L ∉ W.M → (W.ls L (R'.map tLr)).ok H' → Xt (W.v H) ((W.ls L (R'.map tLr)).v H') → Q (.ref L) H'
theorem min_eq' (l n : Nat) : (if (n : Int) - (l : Int) < 3 then (n : Int) - (l : Int) else 3) = ((min 3 (n - l) : Nat) : Int) ∨ n < l := by
  by_cases h : n < l
  · exact .inr h
  · left
    split <;> omega
theorem ok_law_blocks (T : Tp K mg) : FnOk P w K mg base CX0 2 T.law_blocks.a T.law_blocks.fd p_law_blocks spBlocks := by
  refine T.law_blocks.F.ok sc_law_blocks (fun vs H Q E h => ?_) (fun cdv A outer sh H vs Q E hr h => ?_)
  · obtain ⟨W, p, c, n, _, _, _, _, rfl, _⟩ := h
    rfl
  obtain ⟨W, p, c, n, LP, h1, h4, ok, rfl, kq⟩ := h
  have nd := sc_law_blocks.nd
  refine ⟨_, (pss_cons (ps_set (i := 2) nd rfl (Or.inl rfl) (pe_lst pa_nil)) (pss_cons (ps_set (i := 3) nd rfl (Or.inr rfl) pe_int) (pss_cons (ps_while PassesOwn.never (pt_cmpR op_lt (pv 3) (pv 1) (nomark _)) (pss_cons (ps_set (i := 4) nd rfl (Or.inr rfl) (pe_op op_add pe_int (pe_call (ok_law_draw T) (hr.mono (by first | decide | omega)) rfl T.law_draw.m T.law_draw.F.kp T.law_draw.b .nil pass0 (pa_cons (pv 0) (pa_cons (pe_callB (call_min2 rfl) (by rfl) T.b_min (by decide +kernel) (pa_cons pe_int (pa_cons (pe_op op_sub (pv 1) (pv 3)) pa_nil))) pa_nil))))) (pss_cons (ps_set (i := 2) nd rfl (Or.inl rfl) (pe_op op_cat (pv 2) (pe_lc (own := [("_law_k", 5)]) rfl nd (pi_range1 (by rfl) T.b_range (pa_cons (pv 4) pa_nil)) (blkOk_by (own := [("_law_k", 5)]) (N := n_law_blocks) (sc := defScope s_law_blocks) (by decide +kernel)) (fun _ _ _ _ _ => (pg_name (i := 5) nd rfl (Or.inl rfl))) (fun _ _ _ _ _ => pts_nil) (fun _ _ _ _ _ => (pe_listRg rfl (by rfl) T.b_list (prg_2 (by rfl) T.b_range (pv 3) (pe_op op_add (pv 3) (pv 4)))))))) (pss_one (ps_set (i := 3) nd rfl (Or.inr rfl) (pe_op op_add (pv 3) (pv 4))))))) (pss_cons (ps_set (i := 6) nd rfl (Or.inl rfl) (pe_call (ok_law_draw T) (hr.mono (by first | decide | omega)) rfl T.law_draw.m T.law_draw.F.kp T.law_draw.b .nil pass0 (pa_cons (pv 0) (pa_cons pe_int pa_nil)))) (pss_cons (ps_for PassesOwn.never rfl (pi_range1 (by rfl) T.b_range (pa_cons (pv 1) pa_nil)) (pg_name (i := 7) nd rfl (Or.inl rfl)) (pss_one (ps_for PassesOwn.never rfl (pi_range2 (by rfl) T.b_range (pa_cons (pe_op op_add (pe_callB (cr_max rfl) (by rfl) T.b_max (by decide +kernel) (pa_cons (pe_ix ix_list (pv 2) (pv 7) (fun _ _ => rfl)) pa_nil)) pe_int) (pa_cons (pv 1) pa_nil))) (pg_name (i := 8) nd rfl (Or.inl rfl)) (pss_one (ps_if (PW.pt (pw_or (PW.pt (pw_and (pt_cmpR op_eq (pv 6) pe_int (nomark _)) (pw_and1 (pt_cmpR op_eq (pe_call (ok_law_draw T) (hr.mono (by first | decide | omega)) rfl T.law_draw.m T.law_draw.F.kp T.law_draw.b .nil pass0 (pa_cons (pv 0) (pa_cons pe_int pa_nil))) pe_int (nomark _))))) (pw_or1 (PW.pt (pw_and (pt_cmpR op_eq (pv 6) pe_int (nomark _)) (pw_and1 (pt_cmpR op_eq (pe_call (ok_law_draw T) (hr.mono (by first | decide | omega)) rfl T.law_draw.m T.law_draw.F.kp T.law_draw.b .nil pass0 (pa_cons (pv 0) (pa_cons pe_int pa_nil))) pe_int (nomark _)))))))) (pss_one (ps_asg (pe_op op_cat (pe_ix ix_list (pv 2) (pv 7) (fun _ _ => rfl)) (pe_lst (pa_cons (pv 8) pa_nil))) (pg_sub (pv 2) (pv 7) set_list))) pss_nil))))) (pss_one (ps_ret (pv 2)))))))), ?_⟩
  have fr : Fr (W.v H) [some (Ty.is (.ref p)), some (tN n), none, none, none, none, none, none, none] (L2.start n_law_blocks [.ref p, nV n]) := ⟨rfl, rfl, trivial⟩
  refine run_asgN EVN.nil ok fr fun L1 H1 hL1 ok1 x1 fr1 => ?_
  refine run_asg (W := W.ls L1 []) (EV.cst (v := .int 0)) ok1 fr1 fun v2 H2 s2 p2 fr2 => ?_
  let G : Addr → Nat → Ctx := fun L l => [some (Ty.is (.ref p)), some (tN n), some (Ty.is (.ref L)), some (tN l), none, none, none, none, none]
  let Wm : Nat → L2.St → Hp → Prop := fun m σ H' => ∃ (L : Addr) (R' : List (List Nat)) (l : Nat), l ≤ n ∧ m = n - l ∧ BlkOk n l R' ∧ L ∉ W.M ∧ (W.ls L (R'.map tLr)).ok H' ∧ Xt (W.v H) ((W.ls L (R'.map tLr)).v H') ∧ Fr ((W.ls L (R'.map tLr)).v H') (G L l) σ
  have w0 : Wm n _ H2 := ⟨L1, [], 0, Nat.zero_le _, rfl, ⟨rfl, fun r hr => (by cases hr), fun r hr => (by cases hr), fun k hk => (by omega)⟩, hL1, s2.2, x1.trans s2.1, fr2⟩
  refine run_seq ⟨Wm, ⟨n, w0⟩, ?_⟩
  rintro m σ H3 ⟨L, R', l, hln, rfl, hB, hL, ok3, x3, fr3⟩
  refine (EVT.B (EV.op (EV.var (i := 3) rfl) (EV.var (i := 1) rfl) RV.I0)).run ok3 fr3 fun H4 s4 => ?_
  have fr4 := fr3.mo s4.1
  by_cases hlt : l < n
  · rw [decide_eq_true (show (l : Int) < (n : Int) by omega)]
    refine iteT ⟨fun σ' H' => ∃ m', m' < n - l ∧ Wm m' σ' H', fun σ' H' z => z, ?_⟩
    have hmin : 0 < min 3 (n - l) := by omega
    refine run_asgE (EV.draw1 (m := min 3 (n - l)) (LP.ls hL) hmin (by omega) (EV.var (i := 0) rfl) (EV.eq (EV.cb (EVA.cons EV.cst (EVA.cons (EV.op (EV.var (i := 1) rfl) (EV.var (i := 3) rfl) RV.I0) EVA.nil)) RC.min2) (by rw [((min_eq' l n).resolve_right (by omega))]))) s4.2 fr4 fun wd v5 H5 hwd s5 p5 fr5 => ?_
    obtain ⟨hw1, hw2⟩ := hwd
    obtain ⟨ok6, pL⟩ := s5.2.unls hL
    have x35 := ((s4.trans s5).1)
    have frW : Fr (W.v H5) ((G L l).set 4 (some (tN wd))) _ := fr5.mo ls_sub
    have hw3 : wd ≤ 3 ∧ l + wd ≤ n := by omega
    have hRl : R'.length ≤ 4 := by rw [hB.len]; omega
    obtain ⟨v6, ev6, pv6⟩ := frW.get (i := 2) (T := Ty.is (.ref L)) rfl
    cases pv6
    have frV := frW.set pL 2
    rw [show ∀ τ : L2.St, τ[2]? = some (some (V.ref L)) → τ.set 2 (some (V.ref L)) = τ from fun τ e => by
      obtain ⟨h, e⟩ := List.getElem?_eq_some_iff.mp e
      rw [← e, List.set_getElem_self]] at frV
    rotate_left
    · exact ev6
    refine run_asgN (EVN.cat (EV.var (i := 2) (T := Ty.lst (R'.map tLr)) rfl) (EV.lcY (List.range wd) tN (fun _ => tLr ((List.range wd).map fun j => l + j)) _ (EVI.rng1 (EVA.cons (EV.var (i := 4) rfl) EVA.nil) (by omega)) (fun a _ => GT.name (by decide)) (fun W' k hk => EV.eq (EV.lstRg2 (lo := l) (hi := l + wd) (EV.var rfl) (EV.addN (EV.var rfl) (EV.var rfl)) (by omega) (by omega)) (by show _ = Ty.lst (((List.range wd).map fun j => l + j).map tN); rw [List.map_map, Nat.add_sub_cancel_left]; rfl)) (by rw [List.length_range]; omega)) (by rw [List.length_map, List.length_map, List.length_range]; omega)) ok6 frV fun L7 H7 hL7 ok7 x7 fr7 => ?_
    have ets : R'.map tLr ++ (List.range wd).map (fun _ => tLr ((List.range wd).map fun j => l + j)) = (R' ++ List.replicate wd ((List.range wd).map fun j => l + j)).map tLr := by
      rw [List.map_append, List.map_replicate]
      congr 1
      refine List.ext_getElem (by simp) fun i h1 h2 => by simp
    rw [ets] at ok7 x7 fr7
    refine EV.run (W := W.ls L7 _) (EV.addN (EV.var (i := 3) rfl) (EV.var (i := 4) rfl)) ok7 fr7 fun v8 H8 s8 p8 => ?_
    refine ⟨n - (l + wd), by omega, L7, _, l + wd, hw3.2, rfl, hB.app hw3.2, hL7, s8.2, ((x3.trans x35).trans (ls_sub.trans x7)).trans s8.1, ?_⟩
    exact Fr.unset (i := 4) ((fr7.mo s8.1).set p8 3) rfl
  · rw [decide_eq_false (show ¬ (l : Int) < (n : Int) by omega)]
    refine iteF ?_
    have e : l = n := by omega
    subst e
    dsimp only
    refine run_asgE (EV.draw (m := 3) (LP.ls hL) (by decide) (by decide) (EV.var (i := 0) rfl) EV.cst) s4.2 fr4 fun kd v5 H5 hkd s5 p5 fr5 => ?_
    let G6 : Ctx := [some (Ty.is (.ref p)), some (tN l), some (Ty.is (.ref L)), some (tN l), none, none, some (tN kd), none, none]
    refine run_seq (run_for (W := W.ls L (R'.map tLr)) (G := G6) (List.range l) tN (fun i Wi Hi σi => ∃ R2, Wi = W.ls L (R2.map tLr) ∧ BlkOk l l R2 ∧ Fr (Wi.v Hi) G6 σi) (EVI.rng1 (EVA.cons (EV.var (i := 1) rfl) EVA.nil) (by omega)) s5.2 fr5 (fun H6 s6 => ⟨R', rfl, hB, fr5.mo s6.1⟩) (fun i a Wi Hi H6 σi x N ha hPv s6 x6 px hN => ?_) fun Wn Hn σn hPv okn xn => ?_)
    · obtain ⟨R2, rfl, hB2, fri⟩ := hPv
      obtain ⟨hi, ea⟩ := List.getElem?_eq_some_iff.mp ha
      rw [List.length_range] at hi
      rw [List.getElem_range] at ea
      subst ea
      have hi2 : i < R2.length := by rw [hB2.len]; exact hi
      have fr6 := (fri.mo s6.1).set px 7
      have hown := hB2.own i hi
      obtain ⟨mx, hm1, hm2⟩ := max_ex (List.length_pos_of_mem hown)
      have hmn : mx < l := hB2.lt _ (mem_getD' hi2) _ hm1
      let G7 : Ctx := G6.set 7 (some (tN i))
      refine run_for (W := W.ls L (R2.map tLr)) (G := G7) ((List.range (l - (mx + 1))).map fun j => mx + 1 + j) tN (fun j Wj Hj σj => ∃ R3, Wj = W.ls L (R3.map tLr) ∧ BlkOk l l R3 ∧ (∀ y ∈ R3.getD i [], y < mx + 1 + j) ∧ Fr (Wj.v Hj) G7 σj) (EVI.eq (EVI.rng2 (lo := mx + 1) (hi := l) (EVA.cons (EV.addN (EV.cb (EVA.cons (EV.ixH (j := i) HasL.top (EV.var (i := 2) rfl) (EV.var (i := 7) rfl) rfl (by rw [List.getElem?_map, getD_some (z := ([] : List Nat)) hi2]; rfl)) EVA.nil) (RC.maxN (List.length_pos_of_mem hown) ⟨hm1, hm2⟩)) (EV.cst (v := .int 1))) (EVA.cons (EV.var (i := 1) rfl) EVA.nil)) ⟨by omega, by omega⟩) (by rw [List.map_map]; rfl)) s6.2 fr6 (fun H7 s7 => ⟨R2, rfl, hB2, fun y hy => by have := hm2 y hy; omega, fr6.mo s7.1⟩) (fun j a Wj Hj H7 σj y N2 ha hPv s7 x7 py hN2 => ?_) fun Wn Hn σn hPv okn xn => ?_
      · obtain ⟨R3, rfl, hB3, hlt3, frj⟩ := hPv
        obtain ⟨hj, ea⟩ := List.getElem?_eq_some_iff.mp ha
        rw [List.length_map, List.length_range] at hj
        rw [List.getElem_map, List.getElem_range] at ea
        subst ea
        have hi3 : i < R3.length := by rw [hB3.len]; exact hi
        have fr7 := (frj.mo s7.1).set py 8
        have LPj : LensP p c (W.ls L (R3.map tLr)) := LP.ls hL
        have tb : ∀ m, EV (W.ls L (R3.map tLr)) (G7.set 8 (some (tN (mx + 1 + j)))) (tOp rEq (tVar 6) (tC (.int m))) (tBl (decide (V.int (kd : Int) = V.int m))) := fun m => EV.op (EV.var rfl) EV.cst (RV.Eq rfl)
        refine run_ifP1 (p := fun _ => True) (EVTP.or (p := fun _ => True) (q := fun _ => True) (EVTP.and (q := fun _ => True) (EVTP.of (EVT.B (tb 1))) (EVTP.B (EV.op (EV.draw (m := 3) LPj (by decide) (by decide) (EV.var (i := 0) rfl) EV.cst) EV.cst (RV.pL fun b hb => (RV.Eq rfl).to fun H v q => ⟨_, trivial, q⟩))) (fun _ => trivial) (fun _ _ _ => trivial)) (EVTP.and (q := fun _ => True) (EVTP.of (EVT.B (tb 2))) (EVTP.B (EV.op (EV.draw (m := 2) LPj (by decide) (by decide) (EV.var (i := 0) rfl) EV.cst) EV.cst (RV.pL fun b hb => (RV.Eq rfl).to fun H v q => ⟨_, trivial, q⟩))) (fun _ => trivial) (fun _ _ _ => trivial)) (fun _ => trivial) (fun _ _ _ => trivial)) s7.2 fr7 fun bb H8 _ s8 fr8 => ?_
        cases bb with
        | false =>
          refine iteF ?_
          exact hN2 _ _ _ ⟨R3, rfl, hB3, fun y hy => by have := hlt3 y hy; omega, Fr.unset (i := 8) fr8 rfl⟩ s8.2 s8.1
        | true =>
          refine iteT ?_
          have er : (R3.map tLr)[i]? = some (tLr (R3.getD i [])) := by rw [List.getElem?_map, getD_some (z := ([] : List Nat)) hi3]; rfl
          have hlen : (R3.getD i []).length ≤ 4 := Nat.le_trans (nodup_lt (hB3.nd _ (mem_getD' hi3)) (hB3.lt _ (mem_getD' hi3))) h4
          refine run_setH (T := tLr (R3.getD i [] ++ [mx + 1 + j])) (i := i) hL s8.2 fr8 rfl (EV.eq (EV.op (EV.ixH (j := i) HasL.top (EV.var (i := 2) rfl) (EV.var (i := 7) rfl) rfl er) (EV.lst (EVA.cons (EV.var (i := 8) rfl) EVA.nil) (by show 1 ≤ 1000; decide)) (RV.cat (by rw [List.length_map]; show _ + 1 ≤ 1000; omega))) (cat1 _ _)) (EV.var (i := 7) rfl) (by rw [List.length_map]; exact hi3) fun H9 ok9 x9 fr9 => ?_
          rw [← List.map_set] at ok9 x9 fr9
          refine hN2 _ _ _ ⟨R3.set i (R3.getD i [] ++ [mx + 1 + j]), rfl, hB3.put hi3 ?_ ?_ ?_, ?_, Fr.unset (i := 8) fr9 rfl⟩ ok9 (s8.1.trans x9)
          · refine List.nodup_append.mpr ⟨hB3.nd _ (mem_getD' hi3), by simp, fun a ha b hb e => ?_⟩
            rw [List.mem_singleton] at hb
            have := hlt3 a ha
            omega
          · intro y hy
            rcases List.mem_append.mp hy with hy | hy
            · exact hB3.lt _ (mem_getD' hi3) _ hy
            · rw [List.mem_singleton.mp hy]; omega
          · exact List.mem_append_left _ (hB3.own i hi)
          · intro y hy
            rw [getD_setR hi3, if_pos rfl] at hy
            rcases List.mem_append.mp hy with hy | hy
            · have := hlt3 y hy; omega
            · rw [List.mem_singleton.mp hy]; omega
      · obtain ⟨R3, rfl, hB3, _, frj⟩ := hPv
        exact hN _ _ _ ⟨R3, rfl, hB3, Fr.unset (i := 7) frj rfl⟩ okn xn
    · obtain ⟨R2, rfl, hB2, frn⟩ := hPv
      obtain ⟨vL, evL, pvL⟩ := frn.get (i := 2) (T := Ty.is (.ref L)) rfl
      cases pvL
      exact ⟨.ref L, evL, kq L R2 Hn hB2 hL okn (((x3.trans (s4.trans s5).1)).trans xn)⟩
end
end Fo
set_option Elab.async false
set_option linter.all false
set_option maxRecDepth 100000
set_option maxHeartbeats 2000000
namespace Fo
open PySem PySem.Spec PyProof.Rows L2
local macro_rules | `(tactic| walk_at "ev") => `(tactic| first
  | ((with_reducible apply EV.var); rfl)
  | (with_reducible exact EV.cst)
  | (with_reducible exact EVA.nil)
  | (with_reducible exact EVO.none)
  | ((with_reducible apply EVO.some); (· walk_at "ev"))
  | ((with_reducible apply EVA.cons); (· walk_at "ev"); (· walk_at "ev"))
  | ((with_reducible apply EV.op); (· walk_at "ev"); (· walk_at "ev"); (· walk_at "rv"))
  | ((with_reducible apply EV.un); (· walk_at "ev"); (· exact RU.neg))
  | ((with_reducible apply EV.chain); (· walk_at "ev"); (· walk_at "ev"); (· walk_at "rv"); (· walk_at "ev"); (· walk_at "rv"))
  | ((with_reducible apply EV.cb); (· walk_at "ev"); (· walk_at "rv"))
  | ((with_reducible apply EV.bits); (· walk_at "ev"))
  | ((with_reducible apply EV.slT); (· walk_at "ev"); (· walk_at "ev"); (· walk_at "ev"))
  | ((with_reducible apply EV.isN); (· walk_at "ev"))
  | ((with_reducible apply EV.notN); (· walk_at "ev"))
  | ((with_reducible apply EV.notV); (· walk_at "ev"))
  | ((with_reducible apply EV.andV); (· walk_at "ev"); (· intro _; walk_at "ev"))
  | ((with_reducible apply EVT.test); (· walk_at "ev"))
  | ((with_reducible apply EVT.B); (· walk_at "ev"))
  | ((with_reducible apply EVT.not); (· walk_at "ev"))
  | ((with_reducible apply EV.tup); (· walk_at "ev"); (· decide))
  | ((with_reducible apply EV.lst); (· walk_at "ev"); (· decide))
  | ((with_reducible apply EVI.list); (· walk_at "ev"))
  | ((with_reducible apply EVI.tup); (· walk_at "ev"))
  | ((with_reducible apply EVI.enum); (· walk_at "ev"))
  | ((with_reducible apply EVI.enumT); (· walk_at "ev"))
  | ((with_reducible apply EVI.zipT); (· walk_at "ev"); (· walk_at "ev")))
local macro_rules | `(tactic| walk_at "rv") => `(tactic| first
  | exact RV.I0
  | exact RV.oneShl (by decide)
  | exact RV.shrN
  | exact RV.odd
  | exact RC.isi_ii
  | exact RC.isi_ib
  | exact RC.isi_tt
  | exact RC.isi_ss
  | exact RC.lenT
  | exact RC.lenL
  | exact RC.sumF
  | exact RC.allF
  | exact RV.inTN
  | exact RV.inLN
  | exact RV.inTO
  | exact RC.tupOf
  | exact RC.lstOfT
  | exact RC.lstOfL
  | exact RC.int
  | exact RC.intB
  | exact RC.abs
  | exact RV.Eq rfl
  | exact RV.Ne rfl)
/-! ## rows -/
theorem Fr.hide {H : Hp} : ∀ {g : Ctx} {s : L2.St} (i : Nat), Fr H g s → Fr H (g.set i none) s
  | [], [], _, _ => trivial
  | none :: g, _ :: s, 0, h => h
  | some T :: g, some w :: s, 0, h => h.2
  | none :: g, _ :: s, i + 1, h => Fr.hide (g := g) (s := s) i h
  | some U :: g, some w :: s, i + 1, h => ⟨h.1, Fr.hide (g := g) (s := s) i h.2⟩
  | some T :: g, none :: s, _, h => h.elim
  | [], _ :: _, _, h => h.elim
  | none :: _, [], _, h => h.elim
  | some _ :: _, [], _, h => h.elim
theorem Fr.swap {H : Hp} {T : Ty} {v : V} (hv : T.p H v) : ∀ {g : Ctx} {s : L2.St} (i : Nat), Fr H g s → g[i]? = some (some (Ty.is v)) → Fr H (g.set i (some T)) s
  | [], _, _, _, e => by simp at e
  | none :: g, _ :: s, 0, h, e => by simp at e
  | some T' :: g, some w :: s, 0, h, e => by
    have e : T' = Ty.is v := by simpa using e
    subst e
    have h1 : w = v := h.1
    subst h1
    exact ⟨hv, h.2⟩
  | none :: g, _ :: s, i + 1, h, e => Fr.swap (g := g) (s := s) hv i h (by simpa using e)
  | some U :: g, some w :: s, i + 1, h, e => ⟨h.1, Fr.swap (g := g) (s := s) hv i h.2 (by simpa using e)⟩
  | some T :: g, none :: s, _, h, _ => h.elim
  | none :: _, [], _, h, _ => h.elim
  | some _ :: _, [], _, h, _ => h.elim
def ringR (n : Nat) : List (List Nat) := (List.range n).map fun k => (List.range n).filter fun x => !decide (x = k)
theorem ring_ok {n : Nat} (h1 : 1 < n) (h4 : n ≤ 4) : LRok n (ringR n) := by
  have h : n = 2 ∨ n = 3 ∨ n = 4 := by omega
  rcases h with e | e | e <;> subst e
  · exact ⟨by decide, by decide, by decide, [1, 0], by decide, by decide, by decide⟩
  · exact ⟨by decide, by decide, by decide, [1, 2, 0], by decide, by decide, by decide⟩
  · exact ⟨by decide, by decide, by decide, [1, 2, 3, 0], by decide, by decide, by decide⟩
def pairR (n : Nat) : List (List Nat) := (List.range n).map fun k => sortU [k, (k + 1) % n]
theorem pair_ok {n : Nat} (h1 : 1 ≤ n) : LRok n (pairR n) := by
  refine ⟨by unfold pairR; rw [List.length_map, List.length_range], fun r hr => ?_, fun r hr x hx => ?_, List.range n, List.length_range, List.nodup_range, fun k hk => ?_⟩
  · obtain ⟨k, _, rfl⟩ := List.mem_map.mp hr
    exact (sortU_asc _).imp fun h => Nat.ne_of_lt h
  · obtain ⟨k, hk, rfl⟩ := List.mem_map.mp hr
    have hk := List.mem_range.mp hk
    rw [sortU_mem] at hx
    have := Nat.mod_lt (k + 1) (show 0 < n by omega)
    simp at hx
    omega
  · have e : (List.range n).getD k 0 = k := by rw [List.getD_eq_getElem?_getD, List.getElem?_range hk]; rfl
    have e2 : (pairR n).getD k [] = sortU [k, (k + 1) % n] := by
      unfold pairR
      rw [List.getD_eq_getElem?_getD, List.getElem?_map, List.getElem?_range hk]; rfl
    rw [e, e2, sortU_mem]
    simp
section
variable {P : Program} {w : World} {K : PySem.W.Frag} {mg : Str → Option Value} {base : Heap}
def spRows : Sp := fun vs H Q _ => ∃ (W : Wd) (p c : Addr) (n : Nat), LensP p c W ∧ 1 ≤ n ∧ n ≤ 4 ∧ W.ok H ∧ vs = [.ref p, nV n] ∧
  ∀ R d v H', RowsOk R → Deal R d → W.st H H' → (tRows R).p (W.v H') v → Q v H'
theorem ok_law_rows (T : Tp K mg) : FnOk P w K mg base CX0 3 T.law_rows.a T.law_rows.fd p_law_rows spRows := by
  refine T.law_rows.F.ok sc_law_rows (fun vs H Q E h => ?_) (fun cdv A outer sh H vs Q E hr h => ?_)
  · obtain ⟨W, p, c, n, _, _, _, _, rfl, _⟩ := h
    rfl
  obtain ⟨W, p, c, n, LP, h1, h4, ok, rfl, kq⟩ := h
  have nd := sc_law_rows.nd
  refine ⟨_, (pss_cons (ps_set (i := 2) nd rfl (Or.inl rfl) (pe_call (ok_law_draw T) (hr.mono (by first | decide | omega)) rfl T.law_draw.m T.law_draw.F.kp T.law_draw.b .nil pass0 (pa_cons (pv 0) (pa_cons pe_int pa_nil)))) (pss_cons (ps_set (i := 3) nd rfl (Or.inr rfl) (pe_call (ok_law_mixed T) (hr.mono (by first | decide | omega)) rfl T.law_mixed.m T.law_mixed.F.kp T.law_mixed.b .nil pass0 (pa_cons (pv 0) (pa_cons (pe_listRg rfl (by rfl) T.b_list (prg_1 (by rfl) T.b_range (pv 1))) pa_nil)))) (pss_cons (ps_if (pt_cmpR op_lt (pv 2) pe_int (nomark _)) (pss_cons (ps_set (i := 4) nd rfl (Or.inr rfl) (pe_op op_add pe_int (pe_call (ok_law_draw T) (hr.mono (by first | decide | omega)) rfl T.law_draw.m T.law_draw.F.kp T.law_draw.b .nil pass0 (pa_cons (pv 0) (pa_cons pe_int pa_nil))))) (pss_one (ps_set (i := 5) nd rfl (Or.inr rfl) (pe_lc (own := [("_law_k", 7)]) rfl nd (pi_range1 (by rfl) T.b_range (pa_cons (pv 1) pa_nil)) (blkOk_by (own := [("_law_k", 7)]) (N := n_law_rows) (sc := defScope s_law_rows) (by decide +kernel)) (fun _ _ _ _ _ => (pg_name (i := 7) nd rfl (Or.inr rfl))) (fun _ _ _ _ _ => pts_nil) (fun _ _ _ _ _ => (pe_lc (own := [("_law_thing", 6)]) rfl nd (pi_range1 (by rfl) T.b_range (pa_cons (pv 1) pa_nil)) (blkOk_by (own := [("_law_thing", 6)]) (N := n_law_rows) (sc := relS ({ kind := .function, names := [(".0", .local), ("_law_k", .cell), ("range", .globalImplicit), ("_law_chance", .free), ("_law_many", .free), ("_law_own", .free), ("_law_pool_here", .free)], isGenerator := false, isCoroutine := false }) (defScope s_law_rows)) (by decide +kernel)) (fun _ _ _ _ _ => (pg_name (i := 6) nd rfl (Or.inl rfl))) (fun _ _ _ _ _ => (pts_one (PW.pt (pw_or (pt_cmpR op_eq (pv 6) (pe_ix (ix_listK (K := K) rfl) (pv 3) (pv 7) (fun _ _ => rfl)) (nomark _)) (pw_or1 (pt_cmpR op_lt (pe_call (ok_law_draw T) (hr.mono (by first | decide | omega)) rfl T.law_draw.m T.law_draw.F.kp T.law_draw.b .nil pass0 (pa_cons (pv 0) (pa_cons pe_int pa_nil))) (pv 4) (nomark _))))))) (fun _ _ _ _ _ => (pv 6)))))))) (pss_one (ps_if (pt_cmpR op_lt (pv 2) pe_int (nomark _)) (pss_one (ps_set (i := 5) nd rfl (Or.inr rfl) (pe_call (ok_law_blocks T) (hr.mono (by first | decide | omega)) rfl T.law_blocks.m T.law_blocks.F.kp T.law_blocks.b .nil pass0 (pa_cons (pv 0) (pa_cons (pv 1) pa_nil))))) (pss_one (ps_if (PW.pt (pw_and (pt_cmpR op_eq (pv 2) pe_int (nomark _)) (pw_and1 (pt_cmpR op_gt (pv 1) pe_int (nomark _))))) (pss_one (ps_set (i := 5) nd rfl (Or.inr rfl) (pe_lc (own := [("_law_k", 7)]) rfl nd (pi_range1 (by rfl) T.b_range (pa_cons (pv 1) pa_nil)) (blkOk_by (own := [("_law_k", 7)]) (N := n_law_rows) (sc := defScope s_law_rows) (by decide +kernel)) (fun _ _ _ _ _ => (pg_name (i := 7) nd rfl (Or.inr rfl))) (fun _ _ _ _ _ => pts_nil) (fun _ _ _ _ _ => (pe_lc (own := [("_law_thing", 6)]) rfl nd (pi_range1 (by rfl) T.b_range (pa_cons (pv 1) pa_nil)) (blkOk_by (own := [("_law_thing", 6)]) (N := n_law_rows) (sc := relS ({ kind := .function, names := [(".0", .local), ("_law_k", .cell), ("range", .globalImplicit), ("_law_many", .free)], isGenerator := false, isCoroutine := false }) (defScope s_law_rows)) (by decide +kernel)) (fun _ _ _ _ _ => (pg_name (i := 6) nd rfl (Or.inl rfl))) (fun _ _ _ _ _ => (pts_one (pt_cmpR op_ne (pv 6) (pv 7) (nomark _)))) (fun _ _ _ _ _ => (pv 6))))))) (pss_one (ps_set (i := 5) nd rfl (Or.inr rfl) (pe_lc (own := [("_law_k", 7)]) rfl nd (pi_range1 (by rfl) T.b_range (pa_cons (pv 1) pa_nil)) (blkOk_by (own := [("_law_k", 7)]) (N := n_law_rows) (sc := defScope s_law_rows) (by decide +kernel)) (fun _ _ _ _ _ => (pg_name (i := 7) nd rfl (Or.inl rfl))) (fun _ _ _ _ _ => pts_nil) (fun _ _ _ _ _ => (pe_callB (cr_sortedSetK (w := w) rfl rfl) (by rfl) T.b_sorted (by decide +kernel) (pa_cons (pe_callTy (cr_setIK (K := K) (w := w) rfl rfl rfl) (by rfl) T.b_set (by decide +kernel) (pa_cons (pe_lst (pa_cons (pv 7) (pa_cons (pe_op op_mod (pe_callTy call_int1 (by rfl) T.b_int (by decide +kernel) (pa_cons (pe_op op_add (pv 7) pe_int) pa_nil)) (pv 1)) pa_nil))) pa_nil)) pa_nil))))))))))) (pss_cons (ps_if (pt_cmpR op_eq (pe_call (ok_law_draw T) (hr.mono (by first | decide | omega)) rfl T.law_draw.m T.law_draw.F.kp T.law_draw.b .nil pass0 (pa_cons (pv 0) (pa_cons pe_int pa_nil))) pe_int (nomark _)) (pss_cons (ps_set (i := 8) nd rfl (Or.inl rfl) (pe_call (ok_law_draw T) (hr.mono (by first | decide | omega)) rfl T.law_draw.m T.law_draw.F.kp T.law_draw.b .nil pass0 (pa_cons (pv 0) (pa_cons (pv 1) pa_nil)))) (pss_one (ps_asg (pe_callB (cr_sortedSet rfl) (by rfl) T.b_sorted (by decide +kernel) (pa_cons (pe_callTy (cr_setI rfl) (by rfl) T.b_set (by decide +kernel) (pa_cons (pe_op op_cat (pe_ix ix_list (pv 5) (pv 8) (fun _ _ => rfl)) (pe_lst (pa_cons (pe_call (ok_law_draw T) (hr.mono (by first | decide | omega)) rfl T.law_draw.m T.law_draw.F.kp T.law_draw.b .nil pass0 (pa_cons (pv 0) (pa_cons (pv 1) pa_nil))) pa_nil))) pa_nil)) pa_nil)) (pg_sub (pv 5) (pv 8) set_list)))) pss_nil) (pss_cons (ps_set (i := 9) nd rfl (Or.inr rfl) (pe_call (ok_law_mixed T) (hr.mono (by first | decide | omega)) rfl T.law_mixed.m T.law_mixed.F.kp T.law_mixed.b .nil pass0 (pa_cons (pv 0) (pa_cons (pe_listRg rfl (by rfl) T.b_list (prg_1 (by rfl) T.b_range (pv 1))) pa_nil)))) (pss_cons (ps_set (i := 10) nd rfl (Or.inl rfl) (pe_call (ok_law_mixed T) (hr.mono (by first | decide | omega)) rfl T.law_mixed.m T.law_mixed.F.kp T.law_mixed.b .nil pass0 (pa_cons (pv 0) (pa_cons (pe_listRg rfl (by rfl) T.b_list (prg_1 (by rfl) T.b_range (pv 1))) pa_nil)))) (pss_one (ps_ret (pe_callTy call_tuple_of (by rfl) T.b_tuple (by decide +kernel) (pa_cons (pe_lc (own := [("_law_k", 7)]) rfl nd (pi_list (pv 10)) (blkOk_by (own := [("_law_k", 7)]) (N := n_law_rows) (sc := defScope s_law_rows) (by decide +kernel)) (fun _ _ _ _ _ => (pg_name (i := 7) nd rfl (Or.inl rfl))) (fun _ _ _ _ _ => pts_nil) (fun _ _ _ _ _ => (pe_callTy (cr_tupOfK (K := K) rfl) (by rfl) T.b_tuple (by decide +kernel) (pa_cons (pe_callB (cr_sortedK (K := K) rfl) (by rfl) T.b_sorted (by decide +kernel) (pa_cons (pe_lc (own := [("_law_thing", 6)]) rfl nd (pi_listK (K := K) rfl (pe_ix (ix_listK (K := K) rfl) (pv 5) (pv 7) (fun _ _ => rfl))) (blkOk_by (own := [("_law_thing", 6)]) (N := n_law_rows) (sc := relS ({ kind := .function, names := [(".0", .local), ("_law_k", .local), ("tuple", .globalImplicit), ("sorted", .globalImplicit), ("_law_places", .free), ("_law_rows_here", .free)], isGenerator := false, isCoroutine := false }) (defScope s_law_rows)) (by decide +kernel)) (fun _ _ _ _ _ => (pg_name (i := 6) nd rfl (Or.inl rfl))) (fun _ _ _ _ _ => pts_nil) (fun _ _ _ _ _ => (pe_ix (ix_listK (K := K) rfl) (pv 9) (pv 6) (fun _ _ => rfl)))) pa_nil)) pa_nil)))) pa_nil)))))))))), ?_⟩
  have fr : Fr (W.v H) [some (Ty.is (.ref p)), some (tN n), none, none, none, none, none, none, none, none, none] (L2.start n_law_rows [.ref p, nV n]) := ⟨rfl, rfl, trivial⟩
  refine run_asgE (EV.draw (m := 6) LP (by decide) (by decide) (EV.var (i := 0) rfl) EV.cst) ok fr fun kd v1 H1 hkd s1 p1 fr1 => ?_
  refine run_asgE (EV.mixed (things := List.range n) LP (by rw [List.length_range]; exact h4) (EV.var (i := 0) rfl) (EV.lstRg1 (EV.var (i := 1) rfl) (by omega))) s1.2 fr1 fun ow v2 H2 how s2 p2 fr2 => ?_
  obtain ⟨w1, w2, w3⟩ := perm_range how
  have s12 := s1.trans s2
  let G5 : Addr → Ctx := fun L => [some (Ty.is (.ref p)), some (tN n), none, none, none, some (Ty.is (.ref L)), none, none, none, none, none]
  let Inv : L2.St → Hp → Prop := fun σ' H' => ∃ L R', LRok n R' ∧ L ∉ W.M ∧ (W.ls L (R'.map tLr)).ok H' ∧ Xt (W.v H) ((W.ls L (R'.map tLr)).v H') ∧ Fr ((W.ls L (R'.map tLr)).v H') (G5 L) σ'
  refine run_join Inv (fun N hN => ?_) fun σ3 H3 ⟨L, R', hR, hL, ok3, x3, fr3⟩ => ?_
  · refine run_if1b (EVT.B (EV.op (EV.var (i := 2) rfl) EV.cst RV.I0)) s2.2 fr2 (fun _ H3 s3 fr3 => ?_) fun _ H3 s3 fr3 => ?_
    · refine run_asgE (EV.draw1 (m := 4) LP (by decide) (by decide) (EV.var (i := 0) rfl) EV.cst) s3.2 fr3 fun ch v4 H4 hch s4 p4 fr4 => ?_
      refine run_asg1Q ((EVN.lcYW (List.range n) tN (fun k => Ty.exP (fun r : List Nat => r.Sublist (List.range n) ∧ ∀ x ∈ List.range n, decide (x = ow.getD k 0) = true → x ∈ r) tLr) _ (EVI.rng1 (EVA.cons (EV.var (i := 1) rfl) EVA.nil) (by omega)) (fun a _ => GT.name (by decide)) (fun D o hD k hk => EV.lcN (List.range n) tN (fun x => decide (x = ow.getD k 0)) tN _ (EVI.rng1 (EVA.cons (EV.var (i := 1) rfl) EVA.nil) (by omega)) (fun a _ => GT.name (by decide)) (fun D2 o2 hD2 x hx => EVTP.or (q := fun _ => True) (EVTP.of (EVT.B (EV.op (EV.var (i := 6) rfl) (EV.ixL (j := k) (T := tN (ow.getD k 0)) (EV.var (i := 3) rfl) (EV.var (i := 7) rfl) rfl (by rw [List.getElem?_map, getD_some (z := 0) (by rw [w1]; exact List.mem_range.mp hk)]; rfl)) (RV.Eq rfl)))) (EVTP.B (EV.op (EV.draw (m := 5) (LensP.own (LensP.own LP hD) hD2) (by decide) (by decide) (EV.var (i := 0) rfl) EV.cst) (EV.var (i := 4) rfl) (RV.pL fun b hb => RV.I0.to fun H v q => ⟨_, trivial, q⟩))) (fun _ _ => rfl) (fun b hp _ hm => by have hp : false = decide (nV x = nV (ow.getD k 0)) := hp; rw [n_eq, hm] at hp; cases hp)) (fun D2 o2 hD2 x hx => EV.var rfl) (by rw [List.length_range]; omega)) (by rw [List.length_range]; omega)).run s4.2 fr4 fun L acc H5 hL ok5 x5 al => ?_)
      obtain ⟨R', e1, e2, al'⟩ := al_exP al
      rw [List.length_range] at e1
      have hP : ∀ k, k < n → (R'.getD k []).Sublist (List.range n) ∧ ∀ x ∈ List.range n, decide (x = ow.getD k 0) = true → x ∈ R'.getD k [] := fun k hk => e2 k k _ (by rw [List.getElem?_range hk]) (getD_some (by rw [e1]; exact hk))
      have hR : ∀ r ∈ R', r.Sublist (List.range n) := fun r hr => by
        obtain ⟨i, hi, e⟩ := List.getElem_of_mem hr
        have := (hP i (by rw [← e1]; exact hi)).1
        rw [List.getD_eq_getElem?_getD, List.getElem?_eq_getElem hi] at this
        have this : R'[i].Sublist (List.range n) := this
        rwa [e] at this
      refine hN _ _ ⟨L, R', ⟨e1, fun r hr => List.nodup_range.sublist (hR r hr), fun r hr x hx => List.mem_range.mp ((hR r hr).subset hx), ow, w1, w2, fun k hk => (hP k hk).2 _ (List.mem_range.mpr (w3 _ (getD_mem (by rw [w1]; exact hk)))) (decide_eq_true rfl)⟩, hL, ok5.ls al', ((s12.trans s3).trans s4).1.trans x5, ?_⟩
      exact Fr.hide 2 (Fr.hide 3 (Fr.hide 4 ((fr4.mo x5).set (T := Ty.is (.ref L)) rfl 5)))
    · refine run_if1b (EVT.B (EV.op (EV.var (i := 2) rfl) EV.cst RV.I0)) s3.2 fr3 (fun _ H4 s4 fr4 => ?_) fun _ H4 s4 fr4 => ?_
      · refine run_asg1Q (run_call (EVA.cons (EV.var (i := 0) rfl) (EVA.cons (EV.var (i := 1) rfl) EVA.nil)) s4.2 fr4 fun vs H5 s5 al5 fr5 => ?_)
        obtain ⟨x, y, rfl, px, py⟩ := al2 al5
        cases px; cases py
        refine ⟨W, p, c, n, LP, h1, h4, s5.2, rfl, fun L R' H6 hB hL ok6 x6 => hN _ _ ⟨L, R', hB.lr, hL, ok6, ((((s12.trans s3).trans s4).trans s5).1.trans x6), ?_⟩⟩
        exact Fr.hide 2 (Fr.hide 3 ((fr5.mo x6).set (T := Ty.is (.ref L)) rfl 5))
      · refine run_if1b (EVT.and (EVT.B (EV.op (EV.var (i := 2) rfl) EV.cst (RV.Eq rfl))) fun _ => EVT.B (EV.op (EV.var (i := 1) rfl) EV.cst RV.I0)) s4.2 fr4 (fun hb H5 s5 fr5 => ?_) fun _ H5 s5 fr5 => ?_
        · have hn : 1 < n := by
            have := of_decide_eq_true (Bool.and_eq_true_iff.mp hb).2
            omega
          refine run_asg1Q ((EVN.eq (EVN.lcYW (List.range n) tN (fun k => tLr ((List.range n).filter fun x => !decide (x = k))) _ (EVI.rng1 (EVA.cons (EV.var (i := 1) rfl) EVA.nil) (by omega)) (fun a _ => GT.name (by decide)) (fun D o hD k hk => EV.lc (List.range n) tN (fun x => !decide (x = k)) tN _ (EVI.rng1 (EVA.cons (EV.var (i := 1) rfl) EVA.nil) (by omega)) (fun a _ => GT.name (by decide)) (fun W' x hx => EVT.eq (EVT.B (EV.op (EV.var (i := 6) rfl) (EV.var (i := 7) rfl) (RV.Ne rfl))) (ne_n x k)) (fun W' x hx _ => EV.var rfl) (by rw [List.length_range]; omega)) (by rw [List.length_range]; omega)) (show _ = (ringR n).map tLr by unfold ringR; rw [List.map_map]; rfl)).run s5.2 fr5 fun L acc H6 hL ok6 x6 al => ?_)
          refine hN _ _ ⟨L, ringR n, ring_ok hn h4, hL, ok6.ls al, ((((s12.trans s3).trans s4).trans s5).1.trans x6), ?_⟩
          exact Fr.hide 2 (Fr.hide 3 ((fr5.mo x6).set (T := Ty.is (.ref L)) rfl 5))
        · refine run_asg1Q ((EVN.eq (EVN.lcYW (List.range n) tN (fun k => tLr (sortU [k, (k + 1) % n])) _ (EVI.rng1 (EVA.cons (EV.var (i := 1) rfl) EVA.nil) (by omega)) (fun a _ => GT.name (by decide)) (fun D o hD k hk => EV.cb (EVA.cons (EV.cb (EVA.cons (EV.lst (ts := [tN k, tN ((k + 1) % n)]) (EVA.cons (EV.var (i := 7) rfl) (EVA.cons (EV.eq (EV.op (EV.cb (EVA.cons (EV.addN (EV.var (i := 7) rfl) (EV.cst (v := .int 1))) EVA.nil) RC.int) (EV.var (i := 1) rfl) (RV.I (by show (0 : Int) < (n : Int); omega))) (by show Ty.is _ = Ty.is _; rw [Int.natCast_emod])) EVA.nil)) (by show 2 ≤ 1000; decide)) EVA.nil) (RC.setN (ns := [k, (k + 1) % n]) (by show 2 ≤ 100; decide))) EVA.nil) (RC.sortS (by show 2 < 64; decide))) (by rw [List.length_range]; omega)) (show _ = (pairR n).map tLr by unfold pairR; rw [List.map_map]; rfl)).run s5.2 fr5 fun L acc H6 hL ok6 x6 al => ?_)
          refine hN _ _ ⟨L, pairR n, pair_ok h1, hL, ok6.ls al, ((((s12.trans s3).trans s4).trans s5).1.trans x6), ?_⟩
          exact Fr.hide 2 (Fr.hide 3 ((fr5.mo x6).set (T := Ty.is (.ref L)) rfl 5))
  refine run_join Inv (fun N hN => ?_) fun σ4 H4 ⟨L, R', hR, hL, ok4, x4, fr4⟩ => ?_
  · refine run_ifP1 (p := fun _ => True) (EVTP.B (EV.op (EV.draw (m := 3) (LP.ls hL) (by decide) (by decide) (EV.var (i := 0) rfl) EV.cst) EV.cst (RV.pL fun b hb => (RV.Eq rfl).to fun H v q => ⟨_, trivial, q⟩))) ok3 fr3 fun bb H4 _ s4 fr4 => ?_
    cases bb with
    | false => exact iteF (hN _ _ ⟨L, R', hR, hL, s4.2, x3.trans s4.1, fr4⟩)
    | true =>
      refine iteT (run_asgE (EV.draw (m := n) (LP.ls hL) (by omega) (by omega) (EV.var (i := 0) rfl) (EV.var (i := 1) rfl)) s4.2 fr4 fun at' v5 H5 hat s5 p5 fr5 => ?_)
      have hat : at' < R'.length := by rw [hR.len]; exact hat
      have er : (R'.map tLr)[at']? = some (tLr (R'.getD at' [])) := by rw [List.getElem?_map, getD_some (z := ([] : List Nat)) hat]; rfl
      have hm := mem_getD' hat
      have hlen : (R'.getD at' []).length ≤ 4 := Nat.le_trans (nodup_lt (hR.nd _ hm) (hR.lt _ hm)) h4
      refine run_setHE (p := fun x => x < n) (f := fun x => tLr (sortU (R'.getD at' [] ++ [x]))) (i := at') hL s5.2 fr5 rfl (EV.cb (EVA.cons (EV.cb (EVA.cons (EV.op (EV.ixH (j := at') HasL.top (EV.var (i := 5) rfl) (EV.var (i := 8) rfl) rfl er) (EV.lstE (EV.draw (m := n) (LP.ls hL) (by omega) (by omega) (EV.var (i := 0) rfl) (EV.var (i := 1) rfl))) (S := Ty.exP (fun x => x < n) fun x => tLr (R'.getD at' [] ++ [x])) (RV.pR fun b hb => (RV.cat (by rw [List.length_map]; show _ + 1 ≤ 1000; omega)).to fun H v q => ⟨b, hb, by rw [cat1] at q; exact q⟩)) EVA.nil) (RC.pA fun b hb => RC.setN (ns := R'.getD at' [] ++ [b]) (by rw [List.length_append]; show _ + 1 ≤ 100; omega))) EVA.nil) (RC.pA fun b hb => RC.sortS (by rw [List.length_append]; show _ + 1 < 64; omega))) (EV.var (i := 8) rfl) (by rw [List.length_map]; exact hat) fun x H6 hx ok6 x6 fr6 => ?_
      rw [← List.map_set] at ok6 x6 fr6
      refine hN _ _ ⟨L, R'.set at' (sortU (R'.getD at' [] ++ [x])), hR.put hat ((sortU_asc _).imp fun h => Nat.ne_of_lt h) (fun y hy => ?_) (fun y hy => sortU_mem.mpr (List.mem_append_left _ hy)), hL, ok6, ((x3.trans s4.1).trans s5.1).trans x6, Fr.hide 8 fr6⟩
      rcases List.mem_append.mp (sortU_mem.mp hy) with hy | hy
      · exact hR.lt _ hm y hy
      · rw [List.mem_singleton.mp hy]; exact hx
  refine run_asgE (EV.mixed (things := List.range n) (LP.ls hL) (by rw [List.length_range]; exact h4) (EV.var (i := 0) rfl) (EV.lstRg1 (EV.var (i := 1) rfl) (by omega))) ok4 fr4 fun pl v5 H5 hpl s5 p5 fr5 => ?_
  refine run_asgE (EV.mixed (things := List.range n) (LP.ls hL) (by rw [List.length_range]; exact h4) (EV.var (i := 0) rfl) (EV.lstRg1 (EV.var (i := 1) rfl) (by omega))) s5.2 fr5 fun od v6 H6 hod s6 p6 fr6 => ?_
  obtain ⟨q1, q2, q3⟩ := perm_range hpl
  obtain ⟨o1, o2, o3⟩ := perm_range hod
  obtain ⟨okW, pL⟩ := s6.2.unls hL
  have frW := Fr.swap pL 5 (fr6.mo ls_sub) rfl
  obtain ⟨hRows, d, hDeal⟩ := fin_ok hR h1 h4 hpl hod
  have hrow : ∀ k, k < n → (R'.getD k []).length ≤ 4 := fun k hk => by
    have hm := mem_getD' (R := R') (k := k) (by rw [hR.len]; exact hk)
    exact Nat.le_trans (nodup_lt (hR.nd _ hm) (hR.lt _ hm)) h4
  refine run_ret (W := W) (EV.eq (EV.cb (EVA.cons (EV.lcY od tN (fun k => tRow (sortU ((R'.getD k []).map fun x => pl.getD x 0))) _ (EVI.list (EV.var (i := 10) rfl)) (fun a _ => GT.name (by decide)) (fun W' k hk => EV.cb (EVA.cons (EV.cb (EVA.cons (EV.eq (EV.lcY (R'.getD k []) tN (fun x => tN (pl.getD x 0)) _ (EVI.list (EV.ixL (j := k) (T := tLr (R'.getD k [])) (EV.var (i := 5) rfl) (EV.var (i := 7) rfl) rfl (by rw [List.getElem?_map, getD_some (z := ([] : List Nat)) (by rw [hR.len]; exact o3 k hk)]; rfl))) (fun a _ => GT.name (by decide)) (fun W'' x hx => EV.ixL (j := x) (EV.var (i := 9) rfl) (EV.var (i := 6) rfl) rfl (by rw [List.getElem?_map, getD_some (z := 0) (by rw [q1]; exact hR.lt _ (mem_getD' (by rw [hR.len]; exact o3 k hk)) x hx)]; rfl)) (Nat.le_trans (hrow k (o3 k hk)) (by decide))) (show _ = tLr ((R'.getD k []).map fun x => pl.getD x 0) by show _ = Ty.lst (List.map tN (List.map _ _)); rw [List.map_map]; rfl)) EVA.nil) (RC.sortedN (ns := (R'.getD k []).map fun x => pl.getD x 0) (ms := sortU ((R'.getD k []).map fun x => pl.getD x 0)) (by rw [List.length_map]; have := hrow k (o3 k hk); omega) (sortU_perm (fin_nd hR hpl (o3 k hk))) (List.pairwise_map.mpr ((sortU_asc _).imp fun h => by omega)))) EVA.nil) RC.tupOf) (by omega)) EVA.nil) RC.tupOf) (show _ = tRows (finR R' pl od) by unfold finR; show _ = Ty.tup (List.map tRow (List.map _ _)); rw [List.map_map]; rfl)) okW frW fun v7 H7 s7 p7 => ?_
  exact kq _ d v7 H7 hRows hDeal ⟨((((x4.trans s5.1).trans s6.1).trans ls_sub).trans s7.1), s7.2⟩ p7
end
end Fo
set_option Elab.async false
set_option linter.all false
set_option maxRecDepth 100000
/-! The law's state made; two draws, two states. -/
namespace Fo
open PySem PySem.Spec PyProof.Rows L2
section
variable {K : PySem.W.Frag} {mg : Str → Option Value} {W : Wd} {G : Ctx} {te t0 t1 t2 t3 : TE} {σ : L2.St} {H : Hp} {Q : VK}
/-- [rows, standing, history, [..]] -/
theorem run_newSt {s : DSt} (h0 : EV W G t0 (tRows s.1.1)) (h1 : EV W G t1 (tStand s.1.2.1)) (h2 : EV W G t2 (tHist s.1.2.2)) (h3 : EVN W G t3 (s.2.map tTripL)) (ok : W.ok H) (fr : Fr (W.v H) G σ)
    (k : ∀ b e H', b ∉ W.M → e ∉ W.M → (W.cell [b, e] (StAt b e s) StAt.cl).ok H' → Xt (W.v H) ((W.cell [b, e] (StAt b e s) StAt.cl).v H') → Q (.ref b) H') : tLst (tCons t0 (tCons t1 (tCons t2 (tCons t3 tNil)))) σ H Q :=
  h0.run ok fr fun v0 H1 s1 p0 => h1.run s1.2 (fr.mo s1.1) fun v1 H2 s2 p1 => h2.run s2.2 (fr.mo (s1.trans s2).1) fun v2 H3 s3 p2 => h3.run s3.2 (fr.mo ((s1.trans s2).trans s3).1) fun e acc H4 he ok4 x4 al => by
    refine ⟨by show 4 ≤ sizeLine; decide, fun b hb => ?_⟩
    have hbM : b ∉ e :: W.M := ok4.nM hb
    have hbe : b ≠ e := fun z => hbM (by rw [z]; exact List.mem_cons_self)
    have hbW : b ∉ W.M := fun z => hbM (List.mem_cons_of_mem _ z)
    have e4 : H4 e = some (.lst acc) := ok4.at
    let H5 := upd H4 b (.lst [v0, v1, v2, .ref e])
    have x5 : Xt ((W.own e (.lst acc) trivial).v H4) (vis ([b, e] ++ W.M) H5) := fun a o q => by
      obtain ⟨n, q⟩ := vis_some q
      have q1 : a ≠ b := fun z => by rw [z, hb] at q; cases q
      have q2 : a ≠ e := fun z => n (by rw [z]; exact List.mem_cons_self)
      rw [vis_eq (fun z => by rcases List.mem_append.mp z with z | z; · simp at z; exact z.elim q1 q2
                              · exact n (List.mem_cons_of_mem _ z))]
      show upd H4 b _ a = _
      rw [upd_ne q1]; exact q
    have x35 := x4.trans x5
    refine k b e H5 hbW he ⟨W.mo ok4.1 x5 fun a ha => upd_ne fun z => hbW (by rw [← z]; exact ha), hbe, v0, v1, v2, acc, upd_same, (tRows _).mo ((s2.trans s3).1.trans x35) p0, (tStand _).mo (s3.1.trans x35) p1, (tHist _).mo x35 p2, ?_, al.mo x5⟩ (((s1.trans s2).trans s3).1.trans x35)
    show upd H4 b _ e = _
    rw [upd_ne hbe.symm]; exact e4
/-- list(state[3]) -/
theorem EVN.elders {b e : Addr} {s : DSt} (c : HasS b e s W) (h : EV W G te (Ty.is (.ref e))) : EVN W G (tCB (rLstOf K) (tCons te tNil)) (s.2.map tTripL) := ⟨fun ok fr k => h.run ok fr fun v H1 s1 p => by
  cases p
  obtain ⟨_, v0, v1, v2, ev, e1, p0, p1, p2, e2, al⟩ := c.at s1.2
  refine ⟨e, ev, rfl, .inl (SqL.of e2), fun l hl => ?_⟩
  have hv : (W.own l (.lst ev) trivial).v (upd H1 l (.lst ev)) = W.v H1 := own_v s1.2 hl
  refine k l ev _ (s1.2.nM hl) (s1.2.own hl) ?_ ?_
  · rw [hv]; exact s1.1
  · rw [hv]; exact al⟩
structure Five (T : Tp K mg) (p c a pl b e a2 pl2 b2 e2 : Addr) (F : DSt → DSt → DSt → DSt → Wd) : Prop where
  d : ∀ t o k, Lens (fun s => F s t o k) [a, pl] (DrAt T a pl)
  s : ∀ s o k, LensS b e (fun t => F s t o k)
  o : ∀ s t k, Lens (fun o => F s t o k) [a2, pl2] (DrAt T a2 pl2)
  k : ∀ s t o, LensS b2 e2 (fun k => F s t o k)
  p : ∀ s t o k, LensP p c (F s t o k)
theorem Five.three {T : Tp K mg} {p c a pl b e a2 pl2 b2 e2 : Addr} {F : DSt → DSt → DSt → DSt → Wd} (L : Five T p c a pl b e a2 pl2 b2 e2 F) (o k : DSt) : Three T p c a pl b e (fun s t => F s t o k) := ⟨fun t => L.d t o k, fun s => L.s s o k, fun s t => L.p s t o k⟩
theorem two {x y : Addr} {M : List Addr} (hx : x ∉ M) (hy : y ∉ M) : ∀ z ∈ [x, y], z ∉ M := fun z hz => by
  rcases List.mem_cons.mp hz with q | hz
  · rw [q]; exact hx
  · rw [List.mem_singleton.mp hz]; exact hy
theorem Five.mk' {T : Tp K mg} {p c a pl b e a2 pl2 b2 e2 : Addr} {F : DSt → DSt → Wd} (L : Three T p c a pl b e F) (s0 t0 o0 : DSt) (h1 : a2 ∉ (F s0 t0).M) (h2 : pl2 ∉ (F s0 t0).M) (h3 : b2 ∉ ((F s0 t0).cell [a2, pl2] (DrAt T a2 pl2 o0) DrAt.cl).M) (h4 : e2 ∉ ((F s0 t0).cell [a2, pl2] (DrAt T a2 pl2 o0) DrAt.cl).M) :
    Five T p c a pl b e a2 pl2 b2 e2 (fun s t o k => ((F s t).cell [a2, pl2] (DrAt T a2 pl2 o) DrAt.cl).cell [b2, e2] (StAt b2 e2 k) StAt.cl) := by
  have hM : ∀ s t, (F s t).M = (F s0 t0).M := fun s t => ((L.d t).M s s0).trans ((L.s s0).M t t0)
  have g1 : ∀ s t, ∀ z ∈ [a2, pl2], z ∉ (F s t).M := fun s t => by rw [hM s t]; exact two h1 h2
  have g2 : ∀ s t o, ∀ z ∈ [b2, e2], z ∉ ((F s t).cell [a2, pl2] (DrAt T a2 pl2 o) DrAt.cl).M := fun s t o z hz => by
    show z ∉ [a2, pl2] ++ (F s t).M
    rw [hM s t]
    exact two (M := [a2, pl2] ++ (F s0 t0).M) h3 h4 z hz
  exact ⟨fun t o k => Lens.cell (s := s0) (Lens.cell (s := s0) (L.d t) (g1 s0 t)) (g2 s0 t o), fun s o k => Lens.cell (s := t0) (Lens.cell (s := t0) (L.s s) (g1 s t0)) (g2 s t0 o),
    fun s t k => Lens.cell (s := o0) (Lens.top (fun o => DrAt.cl) (g1 s t)) (g2 s t o0), fun s t o => Lens.top (fun k => StAt.cl) (g2 s t o), fun s t o k => Lens.cell (s := ()) (Lens.cell (s := ()) (L.p s t) (g1 s t)) (g2 s t o)⟩
theorem Three.mk' {T : Tp K mg} {p c a pl b e : Addr} {W : Wd} (LP : LensP p c W) (s0 : DSt) (h1 : a ∉ W.M) (h2 : pl ∉ W.M) (h3 : b ∉ (W.cell [a, pl] (DrAt T a pl s0) DrAt.cl).M) (h4 : e ∉ (W.cell [a, pl] (DrAt T a pl s0) DrAt.cl).M) :
    Three T p c a pl b e (fun s t => (W.cell [a, pl] (DrAt T a pl s) DrAt.cl).cell [b, e] (StAt b e t) StAt.cl) := by
  have g1 : ∀ z ∈ [a, pl], z ∉ W.M := two h1 h2
  have g2 : ∀ s, ∀ z ∈ [b, e], z ∉ (W.cell [a, pl] (DrAt T a pl s) DrAt.cl).M := fun s => two h3 h4
  exact ⟨fun t => Lens.cell (s := s0) (Lens.top (fun s => DrAt.cl) g1) (g2 s0), fun s => Lens.top (fun t => StAt.cl) (g2 s), fun s t => Lens.cell (s := ()) (Lens.cell (s := ()) LP g1) (g2 s)⟩
theorem al0 {H : Hp} : ∀ {vs : List V}, Al H [] vs → vs = []
  | [], _ => rfl
  | _ :: _, h => h.elim
/-- o.copy() -/
theorem run_copy {T : Tp K mg} {E : XK} {a pl : Addr} {s : DSt} {d : List Nat} (hD : HasD T a pl s W) (hR : RowsOk s.1.1) (hd : Deal s.1.1 d) (ok : W.ok H) (fr : Fr (W.v H) G σ) (ho : EV W G te (Ty.is (.ref a)))
    (k : ∀ a2 pl2 H', a2 ∉ W.M → pl2 ∉ W.M → (W.cell [a2, pl2] (DrAt T a2 pl2 s) DrAt.cl).ok H' → Xt (W.v H) ((W.cell [a2, pl2] (DrAt T a2 pl2 s) DrAt.cl).v H') → Q (.ref a2) H') : tMeth T.Draw.C "copy" (spCopy T) [] E te tNil σ H Q :=
  run_meth ok fr ho (hD.ins (by decide +kernel)) EVA.nil fun vs H1 s1 al => by
    rw [al0 al]
    exact ⟨W, a, pl, s, d, hD, hR, hd, s1.2, rfl, fun a2 pl2 H' h1 h2 o x => k a2 pl2 H' h1 h2 o (s1.1.trans x)⟩
end
end Fo
set_option Elab.async false
set_option linter.all false
set_option maxRecDepth 100000
set_option maxHeartbeats 2000000
namespace Fo
open PySem PySem.Spec PyProof.Rows L2
local macro_rules | `(tactic| walk_at "ev") => `(tactic| first
  | ((with_reducible apply EV.var); rfl)
  | (with_reducible exact EV.cst)
  | (with_reducible exact EVA.nil)
  | (with_reducible exact EVO.none)
  | ((with_reducible apply EVO.some); (· walk_at "ev"))
  | ((with_reducible apply EVA.cons); (· walk_at "ev"); (· walk_at "ev"))
  | ((with_reducible apply EV.op); (· walk_at "ev"); (· walk_at "ev"); (· walk_at "rv"))
  | ((with_reducible apply EV.un); (· walk_at "ev"); (· exact RU.neg))
  | ((with_reducible apply EV.chain); (· walk_at "ev"); (· walk_at "ev"); (· walk_at "rv"); (· walk_at "ev"); (· walk_at "rv"))
  | ((with_reducible apply EV.cb); (· walk_at "ev"); (· walk_at "rv"))
  | ((with_reducible apply EV.bits); (· walk_at "ev"))
  | ((with_reducible apply EV.slT); (· walk_at "ev"); (· walk_at "ev"); (· walk_at "ev"))
  | ((with_reducible apply EV.isN); (· walk_at "ev"))
  | ((with_reducible apply EV.notN); (· walk_at "ev"))
  | ((with_reducible apply EV.notV); (· walk_at "ev"))
  | ((with_reducible apply EV.andV); (· walk_at "ev"); (· intro _; walk_at "ev"))
  | ((with_reducible apply EVT.test); (· walk_at "ev"))
  | ((with_reducible apply EVT.B); (· walk_at "ev"))
  | ((with_reducible apply EVT.not); (· walk_at "ev"))
  | ((with_reducible apply EV.tup); (· walk_at "ev"); (· decide))
  | ((with_reducible apply EV.lst); (· walk_at "ev"); (· decide))
  | ((with_reducible apply EVI.list); (· walk_at "ev"))
  | ((with_reducible apply EVI.tup); (· walk_at "ev"))
  | ((with_reducible apply EVI.enum); (· walk_at "ev"))
  | ((with_reducible apply EVI.enumT); (· walk_at "ev"))
  | ((with_reducible apply EVI.zipT); (· walk_at "ev"); (· walk_at "ev")))
local macro_rules | `(tactic| walk_at "rv") => `(tactic| first
  | exact RV.I0
  | exact RV.oneShl (by decide)
  | exact RV.shrN
  | exact RV.odd
  | exact RC.isi_ii
  | exact RC.isi_ib
  | exact RC.isi_tt
  | exact RC.isi_ss
  | exact RC.lenT
  | exact RC.lenL
  | exact RC.sumF
  | exact RC.allF
  | exact RV.inTN
  | exact RV.inLN
  | exact RV.inTO
  | exact RC.tupOf
  | exact RC.lstOfT
  | exact RC.lstOfL
  | exact RC.int
  | exact RC.intB
  | exact RC.abs
  | exact RV.Eq rfl
  | exact RV.Ne rfl)
/-! ## the law -/
section
variable {P : Program} {w : World} {K : PySem.W.Frag} {mg : Str → Option Value} {base : Heap}
def spLaw (K : PySem.W.Frag) : Sp := fun vs H Q _ => ∃ (a : Addr) (ns : List Int), vs = [.ref a] ∧ SqL K H a (ns.map V.int) ∧ ns.length ≤ 63 ∧ ∀ H', Q (.bl true) H'
theorem vis_nil (H : Hp) : vis [] H = H := by
  funext a
  exact vis_eq (by simp)
theorem EV.tab {T : Tp K mg} {W : Wd} {G : Ctx} {te : TE} {R : List (List Nat)} (h : EV W G te (tTabT T R)) : EV W G te (tTab T R) := h.to fun H v p => .inl p
theorem run_tt {W : Wd} {G : Ctx} {tt : TT} {b : Bool} {σ : L2.St} {H : Hp} {Q : Bool → Hp → Prop} (h : EVT W G tt b) (ok : W.ok H) (fr : Fr (W.v H) G σ) (k : ∀ H', W.st H H' → Q b H') : tt σ H Q := h.run ok fr k
theorem ok_law (T : Tp K mg) : FnOk P w K mg base CX0 14 T.law.a T.law.fd p_law (spLaw K) := by
  refine T.law.F.ok sc_law (fun vs H Q E h => ?_) (fun cdv A outer sh H vs Q E hr h => ?_)
  · obtain ⟨a, ns, rfl, _⟩ := h
    rfl
  obtain ⟨a0, ns, rfl, hq, hn, kq⟩ := h
  have nd := sc_law.nd
  refine ⟨_, (pss_cons (ps_set (i := 1) nd rfl (Or.inl rfl) (pe_call (ok_law_pool T) (hr.mono (by first | decide | omega)) rfl T.law_pool.m T.law_pool.F.kp T.law_pool.b .nil pass0 (pa_cons (pv 0) pa_nil))) (pss_cons (ps_set (i := 2) nd rfl (Or.inl rfl) (pe_call (ok_law_rows T) (hr.mono (by first | decide | omega)) rfl T.law_rows.m T.law_rows.F.kp T.law_rows.b .nil pass0 (pa_cons (pv 1) (pa_cons (pe_op op_add pe_int (pe_call (ok_law_draw T) (hr.mono (by first | decide | omega)) rfl T.law_draw.m T.law_draw.F.kp T.law_draw.b .nil pass0 (pa_cons (pv 1) (pa_cons pe_int pa_nil)))) pa_nil)))) (pss_cons (ps_set (i := 3) nd rfl (Or.inl rfl) (pe_make T.Table.mkk (ok_Table_init T) (hr.mono (by first | decide | omega)) rfl T.Table.m T.Table.b .nil pass0 (pa_cons (pv 2) pa_nil))) (pss_cons (ps_set (i := 4) nd rfl (Or.inl rfl) (pe_make T.Draw.mkk (ok_Draw_init T) (hr.mono (by first | decide | omega)) rfl T.Draw.m T.Draw.b .nil pass0 (pa_cons (pv 3) pa_nil))) (pss_cons (ps_set (i := 5) nd rfl (Or.inl rfl) (pe_lst (pa_cons (pv 2) (pa_cons (pe_op (OpR.or op_repT op_rep1) (pe_tup (pa_cons pe_non pa_nil)) (pe_callB call_len_seq (by rfl) T.b_len PySem.boot_len (pa_cons (pv 2) pa_nil))) (pa_cons (pe_tup pa_nil) (pa_cons (pe_lst pa_nil) pa_nil)))))) (pss_cons (ps_set (i := 6) nd rfl (Or.inl rfl) (pe_ix ix_list (pe_lst (pa_cons pe_int (pa_cons pe_int (pa_cons pe_int pa_nil)))) (pe_call (ok_law_draw T) (hr.mono (by first | decide | omega)) rfl T.law_draw.m T.law_draw.F.kp T.law_draw.b .nil pass0 (pa_cons (pv 1) (pa_cons pe_int pa_nil))) (fun _ _ => rfl))) (pss_cons (ps_set (i := 7) nd rfl (Or.inl rfl) (pe_call (ok_law_draw T) (hr.mono (by first | decide | omega)) rfl T.law_draw.m T.law_draw.F.kp T.law_draw.b .nil pass0 (pa_cons (pv 1) (pa_cons (pv 6) pa_nil)))) (pss_cons (ps_set (i := 8) nd rfl (Or.inl rfl) (pe_meth0 (pv 4) T.Draw.cl T.Draw_copy.mt (ok_Draw_copy T) (hr.mono (by first | decide | omega)) T.Draw_copy.b .nil pass0)) (pss_cons (ps_set (i := 9) nd rfl (Or.inl rfl) (pe_lst (pa_cons (pv 2) (pa_cons (pe_ix ix_list (pv 5) pe_int (fun _ _ => rfl)) (pa_cons (pe_tup pa_nil) (pa_cons (pe_lst pa_nil) pa_nil)))))) (pss_cons (ps_for PassesOwn.never rfl (pi_range1 (by rfl) T.b_range (pa_cons (pv 6) pa_nil)) (pg_name (i := 10) nd rfl (Or.inl rfl)) (pss_cons (ps_if (pt_cmpR op_eq (pv 10) (pv 7) (nomark _)) (pss_cons (ps_set (i := 8) nd rfl (Or.inl rfl) (pe_meth0 (pv 4) T.Draw.cl T.Draw_copy.mt (ok_Draw_copy T) (hr.mono (by first | decide | omega)) T.Draw_copy.b .nil pass0)) (pss_one (ps_set (i := 9) nd rfl (Or.inl rfl) (pe_lst (pa_cons (pe_ix ix_list (pv 5) pe_int (fun _ _ => rfl)) (pa_cons (pe_ix ix_list (pv 5) pe_int (fun _ _ => rfl)) (pa_cons (pe_ix ix_list (pv 5) pe_int (fun _ _ => rfl)) (pa_cons (pe_callTy call_list_of (by rfl) T.b_list (by decide +kernel) (pa_cons (pe_ix ix_list (pv 5) pe_int (fun _ _ => rfl)) pa_nil)) pa_nil)))))))) pss_nil) (pss_one (ps_if (PW.pt (pw_or (pt_not (pt_val (pe_call (ok_law_one_deed T) (hr.mono (by first | decide | omega)) rfl T.law_one_deed.m T.law_one_deed.F.kp T.law_one_deed.b .nil pass0 (pa_cons (pv 1) (pa_cons (pv 4) (pa_cons (pv 5) pa_nil)))))) (pw_or1 (pt_not (pt_val (pe_call (ok_law_seen T) (hr.mono (by first | decide | omega)) rfl T.law_seen.m T.law_seen.F.kp T.law_seen.b .nil pass0 (pa_cons (pv 4) (pa_cons (pv 5) pa_nil)))))))) (pss_one (ps_ret pe_bl)) pss_nil)))) (pss_cons (ps_if (pt_not (pt_val (pe_call (ok_law_seen T) (hr.mono (by first | decide | omega)) rfl T.law_seen.m T.law_seen.F.kp T.law_seen.b .nil pass0 (pa_cons (pv 8) (pa_cons (pv 9) pa_nil))))) (pss_one (ps_ret pe_bl)) pss_nil) (pss_cons (ps_for PassesOwn.never rfl (pi_range1 (by rfl) T.b_range (pa_cons (pe_callB call_len_seq (by rfl) T.b_len PySem.boot_len (pa_cons (pe_ix ix_list (pv 5) pe_int (fun _ _ => rfl)) pa_nil)) pa_nil)) (pg_name (i := 10) nd rfl (Or.inl rfl)) (pss_cons (ps_expr (pe_meth0 (pv 4) T.Draw.cl T.Draw_back.mt (ok_Draw_back T) (hr.mono (by first | decide | omega)) T.Draw_back.b .nil pass0)) (pss_cons (ps_expr (pe_call (ok_law_go_back T) (hr.mono (by first | decide | omega)) rfl T.law_go_back.m T.law_go_back.F.kp T.law_go_back.b .nil pass0 (pa_cons (pv 5) pa_nil))) (pss_one (ps_if (PW.pt (pw_or (pt_cmpR (op_neD hr.units) (pe_fld (pe_meth0 (pv 4) T.Draw.cl T.Draw_table.mt (ok_Draw_table T) (hr.mono (by first | decide | omega)) T.Draw_table.b .nil pass0) rfl) (pe_ix ix_list (pv 5) pe_int (fun _ _ => rfl)) (nomark _)) (pw_or1 (pt_cmpR (op_neD hr.units) (pe_meth0 (pv 4) T.Draw.cl T.Draw_standing.mt (ok_Draw_standing T) (hr.mono (by first | decide | omega)) T.Draw_standing.b .nil pass0) (pe_ix ix_list (pv 5) pe_int (fun _ _ => rfl)) (nomark _))))) (pss_one (ps_ret pe_bl)) pss_nil))))) (pss_cons (ps_for PassesOwn.never rfl (pi_range1 (by rfl) T.b_range (pa_cons (pe_callB call_len_seq (by rfl) T.b_len PySem.boot_len (pa_cons (pe_ix ix_list (pv 9) pe_int (fun _ _ => rfl)) pa_nil)) pa_nil)) (pg_name (i := 10) nd rfl (Or.inl rfl)) (pss_cons (ps_expr (pe_meth0 (pv 8) T.Draw.cl T.Draw_back.mt (ok_Draw_back T) (hr.mono (by first | decide | omega)) T.Draw_back.b .nil pass0)) (pss_one (ps_expr (pe_call (ok_law_go_back T) (hr.mono (by first | decide | omega)) rfl T.law_go_back.m T.law_go_back.F.kp T.law_go_back.b .nil pass0 (pa_cons (pv 9) pa_nil)))))) (pss_one (ps_ret (pe_and (pe_call (ok_law_seen T) (hr.mono (by first | decide | omega)) rfl T.law_seen.m T.law_seen.F.kp T.law_seen.b .nil pass0 (pa_cons (pv 4) (pa_cons (pv 5) pa_nil))) (pe_and (pe_call (ok_law_seen T) (hr.mono (by first | decide | omega)) rfl T.law_seen.m T.law_seen.F.kp T.law_seen.b .nil pass0 (pa_cons (pv 8) (pa_cons (pv 9) pa_nil))) (pe_and (pe_cmpR (OpR.or (op_ownEq (ok_teq T.Table_eq.toDf T) T.Table_eq.mt.1 T.Table_eq.mt.2 T.Table_eq.b (hr.mono (by decide))) (op_ownEq (ok_teq T.RawTable_eq.toDf T) T.RawTable_eq.mt.1 T.RawTable_eq.mt.2 T.RawTable_eq.b (hr.mono (by decide)))) (pe_meth0 (pv 4) T.Draw.cl T.Draw_table.mt (ok_Draw_table T) (hr.mono (by first | decide | omega)) T.Draw_table.b .nil pass0) (pv 3) (nomark _)) (pe_one (pe_cmpR (op_eqD hr.units) (pe_fld (pv 3) rfl) (pv 2) (nomark _))))))))))))))))))))), ?_⟩
  have ok : W0.ok H := trivial
  have fr : Fr (W0.v H) [some (Ty.ints K ns), none, none, none, none, none, none, none, none, none, none] (L2.start n_law [.ref a0]) := ⟨⟨a0, rfl, by rw [show W0.v H = H from vis_nil H]; exact hq⟩, trivial⟩
  refine run_asgQ (run_call (EVA.cons (EV.var (i := 0) rfl) EVA.nil) ok fr fun vs H1 s1 al fr1 => ?_)
  obtain ⟨v, rfl, a1, rfl, hq1⟩ := al1 al
  refine ⟨W0, a1, ns, hn, s1.2, rfl, ⟨a1, rfl, hq1⟩, fun p c H2 hp hc ok2 x2 => ?_⟩
  let Wp : Wd := W0.cell [p, c] (PlAt p c) PlAt.cl
  have ok2 : Wp.ok H2 := ok2
  have LP : LensP p c Wp := Lens.top (fun _ => PlAt.cl) (two hp hc)
  have fr2 := (fr1.mo x2).set (T := Ty.is (.ref p)) (v := .ref p) rfl 1
  refine run_asgQ (run_call (EVA.cons (EV.var (i := 1) rfl) (EVA.cons (EV.draw1 (m := 4) LP (by decide) (by decide) (EV.var (i := 1) rfl) EV.cst) EVA.nil)) ok2 fr2 fun vs H3 s3 alR fr3 => ?_)
  obtain ⟨x, y, rfl, px, n, ⟨hn1, hn4⟩, py⟩ := al2 alR
  cases px; cases py
  refine ⟨Wp, p, c, n, LP, hn1, hn4, s3.2, rfl, fun R d v4 H4 hR hdl s4 p4 => ?_⟩
  have fr4 := (fr3.mo s4.1).set p4 2
  refine run_asg (EV.tableT (T := T) (EV.var (i := 2) rfl) hR) s4.2 fr4 fun v5 H5 s5 p5 fr5 => ?_
  refine run_asgQ (run_makeD (EV.tab (EV.var (i := 3) rfl)) hR hdl s5.2 fr5 fun a pl H6 ha hpl ok6 x6 => ?_)
  let st : DSt := (st0 R, [])
  let Wd1 : Wd := Wp.cell [a, pl] (DrAt T a pl st) DrAt.cl
  have ok6 : Wd1.ok H6 := ok6
  have fr6 := (fr5.mo x6).set (T := Ty.is (.ref a)) (v := .ref a) rfl 4
  have hRl : R.length ≤ 100 := Nat.le_trans hR.2.1 (by decide)
  refine run_asgQ (run_newSt (W := Wd1) (s := st) (EV.var (i := 2) rfl) (EV.eq (EV.op (EV.tup (EVA.cons EV.cst EVA.nil) (by show 1 ≤ 1000; decide)) (EV.eq (EV.cb (EVA.cons (EV.var (i := 2) rfl) EVA.nil) RC.lenT) (U := tN R.length) (by rw [List.length_map])) (RV.repN hR.1 hRl)) (show _ = tStand (List.replicate R.length none) by show _ = Ty.tup (List.map _ _); rw [List.map_replicate]; rfl)) (EV.eq (EV.tup EVA.nil (by show 0 ≤ 1000; decide)) rfl) EVN.nil ok6 fr6 fun b e H7 hb he ok7 x7 => ?_)
  let F0 : DSt → DSt → Wd := fun s t => (Wp.cell [a, pl] (DrAt T a pl s) DrAt.cl).cell [b, e] (StAt b e t) StAt.cl
  have L0 : Three T p c a pl b e F0 := Three.mk' LP st ha hpl hb he
  have ok7 : (F0 st st).ok H7 := ok7
  have fr7 := (fr6.mo x7).set (T := Ty.is (.ref b)) (v := .ref b) rfl 5
  have D0 : DOk R 0 st := DOk.start hR hdl
  refine run_asgE (W := F0 st st) (EV.ixLE (L := [4, 10, 20]) (f := tN) (EV.eq (EV.lst (EVA.cons (EV.cst (v := .int 4)) (EVA.cons (EV.cst (v := .int 10)) (EVA.cons (EV.cst (v := .int 20)) EVA.nil))) (by show 3 ≤ 1000; decide)) rfl) (EV.draw (m := 3) (L0.p st st) (by decide) (by decide) (EV.var (i := 1) rfl) EV.cst)) ok7 fr7 fun many v8 H8 hmany s8 p8 fr8 => ?_
  have hm : 0 < many ∧ many ≤ 20 := by
    have : many ∈ [4, 10, 20] := hmany
    simp at this
    omega
  refine run_asgE (W := F0 st st) (EV.draw (m := many) (L0.p st st) hm.1 (by omega) (EV.var (i := 1) rfl) (EV.var (i := 6) rfl)) s8.2 fr8 fun whn v9 H9 hwhn s9 p9 fr9 => ?_
  have hd9 : HasD T a pl st (F0 st st) := (L0.d st).has
  refine run_asgQ (run_copy (W := F0 st st) hd9 hR hdl s9.2 fr9 (EV.var (i := 4) rfl) fun a2 pl2 HA ha2 hpl2 okA xA => ?_)
  let WA : Wd := (F0 st st).cell [a2, pl2] (DrAt T a2 pl2 st) DrAt.cl
  have okA : WA.ok HA := okA
  have frA := (fr9.mo xA).set (T := Ty.is (.ref a2)) (v := .ref a2) rfl 8
  have hsA : HasS b e st WA := Has.cell ((L0.s st).has (s := st))
  refine run_asgQ (run_newSt (W := WA) (s := st) (EV.var (i := 2) rfl) (EV.s1 hsA (EV.var (i := 5) rfl)) (EV.eq (EV.tup EVA.nil (by show 0 ≤ 1000; decide)) rfl) EVN.nil okA frA fun b2 e2 HB hb2 he2 okB xB => ?_)
  have L5 := Five.mk' (e2 := e2) L0 st st st ha2 hpl2 hb2 he2
  have frB := (frA.mo xB).set (T := Ty.is (.ref b2)) (v := .ref b2) rfl 9
  let GL : Addr → Addr → Ctx := fun a2 b2 => [some (Ty.ints K ns), some (Ty.is (.ref p)), some (tRows R), some (tTabT T R), some (Ty.is (.ref a)), some (Ty.is (.ref b)), some (tN many), some (tN whn), some (Ty.is (.ref a2)), some (Ty.is (.ref b2)), none]
  let Pv : Nat → Wd → Hp → L2.St → Prop := fun i Wi Hi σi => ∃ (F : DSt → DSt → DSt → DSt → Wd) (a2 pl2 b2 e2 : Addr) (s o : DSt), Five T p c a pl b e a2 pl2 b2 e2 F ∧ Wi = F s s o o ∧ DOk R i s ∧ DOk R i o ∧ Fr (Wi.v Hi) (GL a2 b2) σi
  refine run_seq (run_for (G := GL a2 b2) (List.range many) tN Pv (EVI.rng1 (EVA.cons (EV.var (i := 6) rfl) EVA.nil) (by omega)) okB frB (fun HC sC => ⟨_, a2, pl2, b2, e2, st, st, L5, rfl, D0, D0, frB.mo sC.1⟩) (fun i turn Wi Hi HC σi x N hti hPv sC xC px hN => ?_) fun Wn Hn σn hPv okn xn => ?_)
  · obtain ⟨F, a2, pl2, b2, e2, s, o, L, rfl, hs, ho, fri⟩ := hPv
    obtain ⟨hi, et⟩ := List.getElem?_eq_some_iff.mp hti
    rw [List.length_range] at hi
    have frC := (fri.mo sC.1).set px 10
    let Inv : L2.St → Hp → Prop := fun σ' H' => ∃ (F' : DSt → DSt → DSt → DSt → Wd) (a2 pl2 b2 e2 : Addr) (o' : DSt), Five T p c a pl b e a2 pl2 b2 e2 F' ∧ DOk R i o' ∧ (F' s s o' o').ok H' ∧ Xt ((F s s o o).v HC) ((F' s s o' o').v H') ∧ Fr ((F' s s o' o').v H') (GL a2 b2) σ'
    refine run_join Inv (fun N2 hN2 => ?_) fun σD HD ⟨F', a2, pl2, b2, e2, o, L, ho, okD, xD, frD⟩ => ?_
    · refine run_if1b (W := F s s o o) (EVT.B (EV.op (EV.var (i := 10) rfl) (EV.var (i := 7) rfl) (RV.Eq rfl))) sC.2 frC (fun _ HD sD frD => ?_) fun _ HD sD frD => ?_
      · have hdD : HasD T a pl s (F s s o o) := (L.d s o o).has
        obtain ⟨dd, hdd⟩ := hs.now.deal
        refine run_asgQ (run_copy (W := F s s o o) hdD hs.now.rows hdd sD.2 frD (EV.var (i := 4) rfl) fun a3 pl3 HE ha3 hpl3 okE xE => ?_)
        let WE : Wd := (F s s o o).cell [a3, pl3] (DrAt T a3 pl3 s) DrAt.cl
        have okE : WE.ok HE := okE
        have frE := (frD.mo xE).set (T := Ty.is (.ref a3)) (v := .ref a3) rfl 8
        have hsE : HasS b e s WE := Has.cell ((L.s s o o).has (s := s))
        refine run_asg1Q (run_newSt (W := WE) (s := s) (EV.s0 hsE (EV.var (i := 5) rfl)) (EV.s1 hsE (EV.var (i := 5) rfl)) (EV.s2 hsE (EV.var (i := 5) rfl)) (EVN.elders hsE (EV.s3 hsE (EV.var (i := 5) rfl))) okE frE fun b3 e3 HF hb3 he3 okF xF => ?_)
        have L' := Five.mk' (e2 := e3) (L.three o o) s s s ha3 hpl3 hb3 he3
        have frF := (frE.mo xF).set (T := Ty.is (.ref b3)) (v := .ref b3) rfl 9
        exact hN2 _ _ ⟨_, a3, pl3, b3, e3, s, L', hs, okF, (sD.1.trans xE).trans xF, Fr.hide 10 frF⟩
      · exact hN2 _ _ ⟨F, a2, pl2, b2, e2, o, L, ho, sD.2, sD.1, Fr.hide 10 frD⟩
    · -- one deed, then the look
      refine run_call (W := F' s s o o) (EVA.cons (EV.var (i := 1) rfl) (EVA.cons (EV.var (i := 4) rfl) (EVA.cons (EV.var (i := 5) rfl) EVA.nil))) okD frD fun vs HE sE alE frE => ?_
      refine ⟨fun s t => F' s t o o, p, c, a, pl, b, e, R, i, s, L.three o o, hs, by omega, sE.2, al3 alE, fun s' HF hs' okF xF => ⟨true, rfl, ?_⟩⟩
      have okF : (F' s' s' o o).ok HF := okF
      have xF : Xt ((F' s s o o).v HE) ((F' s' s' o o).v HF) := xF
      have frF := frE.mo xF
      have hdF : HasD T a pl s' (F' s' s' o o) := (L.d s' o o).has
      have hsF : HasS b e s' (F' s' s' o o) := (L.s s' o o).has
      refine iteF (run_tt (W := F' s' s' o o) (EVT.not (EVT.B (EV.callG (a, pl, b, e, s') ⟨hdF, hsF, hs'.now⟩ (EVA.cons (EV.var (i := 4) rfl) (EVA.cons (EV.var (i := 5) rfl) EVA.nil))))) okF frF fun HG sG => ?_)
      refine iteF ?_
      exact hN _ _ _ ⟨F', a2, pl2, b2, e2, s', o, L, rfl, hs', ho.mono (Nat.le_succ _), frF.mo sG.1⟩ sG.2 (((xD.trans sE.1).trans xF).trans sG.1)
  obtain ⟨F, a2, pl2, b2, e2, s, o, L, rfl, hs, ho, frn⟩ := hPv
  have okn : (F s s o o).ok Hn := okn
  rw [List.length_range] at hs ho
  have hdo : ∀ s o k, HasD T a2 pl2 o (F s s o k) := fun s o k => (L.o s s k).has
  have hso : ∀ s o k, HasS b2 e2 k (F s s o k) := fun s o k => (L.k s s o).has
  dsimp only
  refine run_ifb (W := F s s o o) (b := false) (EVT.eq (EVT.not (EVT.B (EV.callG (a2, pl2, b2, e2, o) ⟨hdo s o o, hso s o o, ho.now⟩ (EVA.cons (EV.var (i := 8) rfl) (EVA.cons (EV.var (i := 9) rfl) EVA.nil))))) rfl) okn frn (fun h => by cases h) fun _ H1' s1' fr1' => run_next ?_
  have hss : HasS b e s (F s s o o) := (L.s s o o).has
  -- back, one by one
  refine run_seq (run_for (W := F s s o o) (G := GL a2 b2) (List.range s.2.length) tN (fun i Wi Hi σi => ∃ s', Wi = F s' s' o o ∧ DOk R many s' ∧ s'.2.length = s.2.length - i ∧ Fr (Wi.v Hi) (GL a2 b2) σi) (EVI.rng1 (EVA.cons (EV.lenElders hss (EV.var (i := 5) rfl)) EVA.nil) (by have := hs.few; omega)) s1'.2 fr1' (fun HC sC => ⟨s, rfl, hs, rfl, fr1'.mo sC.1⟩) (fun i turn Wi Hi HC σi x N hti hPv sC xC px hN => ?_) fun Wn Hm σm hPv okm xm => ?_)
  · obtain ⟨s', rfl, hs', hl, fri⟩ := hPv
    obtain ⟨hi, et⟩ := List.getElem?_eq_some_iff.mp hti
    rw [List.length_range] at hi
    have frC := (fri.mo sC.1).set px 10
    have hne : s'.2 ≠ [] := fun z => by rw [z] at hl; simp at hl; omega
    let s2 : DSt := (lastOr s', s'.2.dropLast)
    have hs2 : DOk R many s2 := hs'.back hne
    refine run_seq (run_dropQ (run_meth0M (F := fun s => F s s' o o) (s := s') (a, pl, ()) (L.d s' o o) hne sC.2 frC (EV.var (i := 4) rfl) (HasD.ins (s := s') (L.d s' o o).has (by decide +kernel)) fun v2 HD okD xD rD => ?_))
    have okD : (F s2 s' o o).ok HD := okD
    have xD : Xt ((F s' s' o o).v HC) ((F s2 s' o o).v HD) := xD
    have frD := frC.mo xD
    refine run_seq (run_dropQ (run_callM (F := fun t => F s2 t o o) (s := s') (b, e, ()) (L.s s2 o o) hne okD frD (EVA.cons (EV.var (i := 5) rfl) EVA.nil) fun v3 HE okE xE rE => ?_))
    have okE : (F s2 s2 o o).ok HE := okE
    have xE : Xt ((F s2 s' o o).v HD) ((F s2 s2 o o).v HE) := xE
    have frE := frD.mo xE
    have hd2 : HasD T a pl s2 (F s2 s2 o o) := (L.d s2 o o).has
    have hs2' : HasS b e s2 (F s2 s2 o o) := (L.s s2 o o).has
    refine run_if1b (W := F s2 s2 o o) (b := false) (EVT.eq (EVT.or (EVT.B (EV.op (EV.fld (EV.methG (a, pl, s2, ()) ⟨hd2, hs2.now.ok⟩ (EV.var (i := 4) rfl) (hd2.ins (by decide +kernel)) EVA.nil) (has_rows T _)) (EV.s0 hs2' (EV.var (i := 5) rfl)) (RV.neD Dm.rows (by decide) isD_rows isD_rows))) fun _ => EVT.B (EV.op (EV.methG (a, pl, s2, ()) ⟨hd2, hs2.now.ok⟩ (EV.var (i := 4) rfl) (hd2.ins (by decide +kernel)) EVA.nil) (EV.s1 hs2' (EV.var (i := 5) rfl)) (RV.neD Dm.stand (by decide) isD_stand isD_stand))) (by simp)) okE frE (fun h => by cases h) fun _ HF sF frF => ?_
    exact hN _ _ _ ⟨s2, rfl, hs2, by show s'.2.dropLast.length = _; rw [List.length_dropLast]; omega, Fr.hide 10 frF⟩ sF.2 ((xD.trans xE).trans sF.1)
  obtain ⟨sz, rfl, hsz, hlz, frz⟩ := hPv
  have okm : (F sz sz o o).ok Hm := okm
  rw [List.length_range] at hlz
  have hz0 : sz.2 = [] := List.length_eq_zero_iff.mp (by omega)
  have ez := hsz.bottom hz0
  dsimp only
  refine run_seq (run_for (W := F sz sz o o) (G := GL a2 b2) (List.range o.2.length) tN (fun i Wi Hi σi => ∃ o', Wi = F sz sz o' o' ∧ DOk R many o' ∧ o'.2.length = o.2.length - i ∧ Fr (Wi.v Hi) (GL a2 b2) σi) (EVI.rng1 (EVA.cons (EV.lenElders (hso sz o o) (EV.var (i := 9) rfl)) EVA.nil) (by have := ho.few; omega)) okm frz (fun HC sC => ⟨o, rfl, ho, rfl, frz.mo sC.1⟩) (fun i turn Wi Hi HC σi x N hti hPv sC xC px hN => ?_) fun Wn Hk σk hPv okk xk => ?_)
  · obtain ⟨o', rfl, ho', hl, fri⟩ := hPv
    obtain ⟨hi, et⟩ := List.getElem?_eq_some_iff.mp hti
    rw [List.length_range] at hi
    have frC := (fri.mo sC.1).set px 10
    have hne : o'.2 ≠ [] := fun z => by rw [z] at hl; simp at hl; omega
    let o2 : DSt := (lastOr o', o'.2.dropLast)
    have ho2 : DOk R many o2 := ho'.back hne
    refine run_seq (run_dropQ (run_meth0M (F := fun q => F sz sz q o') (s := o') (a2, pl2, ()) (L.o sz sz o') hne sC.2 frC (EV.var (i := 8) rfl) ((hdo sz o' o').ins (by decide +kernel)) fun v2 HD okD xD rD => ?_))
    have okD : (F sz sz o2 o').ok HD := okD
    have xD : Xt ((F sz sz o' o').v HC) ((F sz sz o2 o').v HD) := xD
    have frD := frC.mo xD
    refine run_dropQ (run_callM (F := fun q => F sz sz o2 q) (s := o') (b2, e2, ()) (L.k sz sz o2) hne okD frD (EVA.cons (EV.var (i := 9) rfl) EVA.nil) fun v3 HE okE xE rE => ?_)
    have okE : (F sz sz o2 o2).ok HE := okE
    have xE : Xt ((F sz sz o2 o').v HD) ((F sz sz o2 o2).v HE) := xE
    exact hN _ _ _ ⟨o2, rfl, ho2, by show o'.2.dropLast.length = _; rw [List.length_dropLast]; omega, Fr.hide 10 (frD.mo xE)⟩ okE (xD.trans xE)
  obtain ⟨oz, rfl, hoz, hloz, frk⟩ := hPv
  have okk : (F sz sz oz oz).ok Hk := okk
  have hd9 : HasD T a pl sz (F sz sz oz oz) := (L.d sz oz oz).has
  have hs9 : HasS b e sz (F sz sz oz oz) := (L.s sz oz oz).has
  have er : sz.1.1 = R := by rw [ez]; rfl
  dsimp only
  refine run_ret (W := F sz sz oz oz) (EV.eq (EV.andV (EV.callG (a, pl, b, e, sz) ⟨hd9, hs9, hsz.now⟩ (EVA.cons (EV.var (i := 4) rfl) (EVA.cons (EV.var (i := 5) rfl) EVA.nil))) fun _ => EV.andV (EV.callG (a2, pl2, b2, e2, oz) ⟨hdo sz oz oz, hso sz oz oz, hoz.now⟩ (EVA.cons (EV.var (i := 8) rfl) (EVA.cons (EV.var (i := 9) rfl) EVA.nil))) fun _ => EV.andV (EV.op (EV.methG (a, pl, sz, ()) ⟨hd9, hsz.now.ok⟩ (EV.var (i := 4) rfl) (hd9.ins (by decide +kernel)) EVA.nil) (EV.var (i := 3) rfl) (RV.teq (neg := false))) fun _ => EV.op (EV.fld (EV.tab (EV.var (i := 3) rfl)) (has_rows T R)) (EV.var (i := 2) rfl) (RV.eqD Dm.rows (by decide) isD_rows isD_rows)) (U := tBl true) (by simp [er])) okk frk fun v HL sL pL => ?_
  cases pL
  exact kq HL
end
end Fo
set_option Elab.async false
set_option linter.all false
set_option maxRecDepth 100000
set_option maxHeartbeats 4000000
/-! What the end must know of the top. Printed by gentq.py. -/
namespace Fo
open PySem PySem.Spec PyProof.Rows L2
def fdAt (K : PySem.W.Frag) (a : Addr) : FuncData := match K.lookup a with
  | some ⟨_, _, .func fd, _⟩ => fd
  | _ => PySem.W.fnOf "" "" (defArgs (topS 0)) (defBody (topS 0)) (defScope (topS 0)) .none .none .none .none none .none .none
section
variable {K : PySem.W.Frag} {mg : Str → Option Value} {h : Heap} {x qual : Str} {st : Stmt} {ps : List Str}
theorem funOf {p : Str × Option Str} (e : ∃ oc od osl kV doc pm an cdv ct, K.lookup (He.fAd K p) = some ⟨oc, od, .func (PySem.W.fnOf x qual (defArgs st) (defBody st) (defScope st) .none kV doc pm an cdv ct), osl⟩ ∧ PySem.W.codeIn K cdv qual = true)
    (k : PySem.W.keepIn K (.ref (He.fAd K p)) = true) : Fun K x qual st (He.fAd K p) (fdAt K (He.fAd K p)) := by
  obtain ⟨oc, od, osl, kV, doc, pm, an, cdv, ct, l, cc⟩ := e
  refine ⟨⟨oc, od, kV, doc, pm, an, cdv, ct, osl, ?_, ?_, cc⟩, k⟩
  · unfold fdAt
    rw [l]
  · unfold fdAt
    rw [l]
abbrev Bi (x qual : Str) (st : Stmt) (ps : List Str) : Prop := ∀ (kV doc pm : Value) (an : Option Addr) (cdv ct : Value) (us : List Value), us.length = ps.length → bindArgs (PySem.W.fnOf x qual (defArgs st) (defBody st) (defScope st) .none kV doc pm an cdv ct) ⟨us, []⟩ = pure (ps.zip us)
def gfOf (X : K.In h) (G : h.Ns mainGlobals mg) (g : (He.Fa.glo x).ok K = true) (e : ∃ oc od osl kV doc pm an cdv ct, K.lookup (He.fAd K (x, none)) = some ⟨oc, od, .func (PySem.W.fnOf x x (defArgs st) (defBody st) (defScope st) .none kV doc pm an cdv ct), osl⟩ ∧ PySem.W.codeIn K cdv x = true)
    (k : (He.Fa.keep x).ok K = true) (b : Bi x x st ps) : Gf K mg x st ps where
  a := He.fAd K (x, none)
  fd := _
  F := funOf e (He.keep_ok k)
  b := (funOf (p := (x, none)) e (He.keep_ok k)).binds b
  m := He.glo_ok X G g
def mfOf {C : Str} (m : (He.Fa.meth C x).ok K = true) (e : ∃ oc od osl kV doc pm an cdv ct, K.lookup (He.fAd K (C, some x)) = some ⟨oc, od, .func (PySem.W.fnOf x qual (defArgs st) (defBody st) (defScope st) .none kV doc pm an cdv ct), osl⟩ ∧ PySem.W.codeIn K cdv qual = true)
    (b : Bi x qual st ps) : Mf K (He.ga K C) x qual st ps where
  a := He.fAd K (C, some x)
  fd := _
  F := funOf e (He.meth_ok m).kp
  b := (funOf (p := (C, some x)) e (He.meth_ok m).kp).binds b
  mt := He.meth_ok m
theorem na_nil {C : Addr} : ∀ f ∈ ([] : List Str), NoAttr K C f := fun f hf => by cases hf
theorem na_cons {C : Addr} {y : Str} {fs : List Str} (h : NoAttr K C y) (t : ∀ f ∈ fs, NoAttr K C f) : ∀ f ∈ y :: fs, NoAttr K C f := fun f hf => by
  rcases List.mem_cons.mp hf with e | hf
  · rw [e]; exact h
  · exact t f hf
def cfOf {C : Str} {fs : List Str} (X : K.In h) (G : h.Ns mainGlobals mg) (g : (He.Fa.glo C).ok K = true) (cl : (He.Fa.cls C).ok K = true) (na : ∀ f ∈ fs, NoAttr K (He.ga K C) f) (mk : (He.Fa.mkr C).ok K = true) (mm : (He.Fa.meth C "__init__").ok K = true)
    (e : ∃ oc od osl kV doc pm an cdv ct, K.lookup (He.fAd K (C, some "__init__")) = some ⟨oc, od, .func (PySem.W.fnOf "__init__" qual (defArgs st) (defBody st) (defScope st) .none kV doc pm an cdv ct), osl⟩ ∧ PySem.W.codeIn K cdv qual = true)
    (b : Bi "__init__" qual st ps) : Cf K mg C fs qual st ps where
  a := He.fAd K (C, some "__init__")
  fd := _
  F := funOf e (He.meth_ok mm).kp
  b := (funOf (p := (C, some "__init__")) e (He.meth_ok mm).kp).binds b
  C := He.ga K C
  cl := He.cls_ok cl
  na := na
  mkk := He.mkr_ok mk
  m := He.glo_ok X G g
end
abbrev faL : List He.Fa := [
  .glo "is_integer",
  .keep "is_integer",
  .glo "is_within",
  .keep "is_within",
  .glo "is_pair",
  .keep "is_pair",
  .glo "are_ascending",
  .keep "are_ascending",
  .glo "is_lot_of",
  .keep "is_lot_of",
  .noat "Matching" "left",
  .noat "Matching" "owner",
  .noat "Matching" "of",
  .noat "Matching" "rows",
  .glo "Matching",
  .cls "Matching",
  .mkr "Matching",
  .meth "Matching" "__init__",
  .meth "Matching" "seat",
  .meth "Matching" "hand_on",
  .glo "can_be_dealt",
  .keep "can_be_dealt",
  .glo "check_stuck",
  .keep "check_stuck",
  .noat "Table" "size",
  .noat "Table" "rows",
  .glo "Table",
  .cls "Table",
  .mkr "Table",
  .meth "Table" "__init__",
  .meth "Table" "keep",
  .meth "Table" "__eq__",
  .noat "RawTable" "size",
  .noat "RawTable" "rows",
  .glo "RawTable",
  .cls "RawTable",
  .mkr "RawTable",
  .meth "RawTable" "__init__",
  .meth "RawTable" "keep",
  .meth "RawTable" "__eq__",
  .glo "is_person",
  .keep "is_person",
  .glo "check_person",
  .keep "check_person",
  .glo "check_thing",
  .keep "check_thing",
  .glo "check_pair",
  .keep "check_pair",
  .glo "with_row",
  .keep "with_row",
  .glo "with_tie",
  .keep "with_tie",
  .glo "without_tie",
  .keep "without_tie",
  .glo "bits",
  .keep "bits",
  .glo "without",
  .keep "without",
  .glo "has",
  .keep "has",
  .glo "least_of",
  .keep "least_of",
  .noat "Counter" "known",
  .noat "Counter" "whole",
  .noat "Counter" "rows",
  .glo "Counter",
  .cls "Counter",
  .mkr "Counter",
  .meth "Counter" "__init__",
  .meth "Counter" "of",
  .meth "Counter" "among",
  .glo "left_of",
  .keep "left_of",
  .glo "many_behind",
  .keep "many_behind",
  .glo "opens",
  .keep "opens",
  .glo "openers",
  .keep "openers",
  .glo "after_draw",
  .keep "after_draw",
  .glo "known_in",
  .keep "known_in",
  .glo "settled_in",
  .keep "settled_in",
  .glo "drawn_by",
  .keep "drawn_by",
  .glo "nothing_drawn",
  .keep "nothing_drawn",
  .glo "waiting_comers",
  .keep "waiting_comers",
  .noat "Draw" "past",
  .noat "Draw" "now",
  .glo "Draw",
  .cls "Draw",
  .mkr "Draw",
  .meth "Draw" "__init__",
  .meth "Draw" "change",
  .meth "Draw" "check_comer",
  .meth "Draw" "choices",
  .meth "Draw" "open_for",
  .meth "Draw" "draw",
  .meth "Draw" "strike",
  .meth "Draw" "allow",
  .meth "Draw" "standing",
  .meth "Draw" "history",
  .meth "Draw" "table",
  .meth "Draw" "many",
  .meth "Draw" "settled",
  .meth "Draw" "back",
  .meth "Draw" "deeds",
  .meth "Draw" "copy",
  .glo "_law_pool",
  .keep "_law_pool",
  .glo "_law_draw",
  .keep "_law_draw",
  .glo "_law_mixed",
  .keep "_law_mixed",
  .glo "_law_blocks",
  .keep "_law_blocks",
  .glo "_law_rows",
  .keep "_law_rows",
  .glo "_law_all",
  .keep "_law_all",
  .glo "_law_fits",
  .keep "_law_fits",
  .glo "_law_drawn",
  .keep "_law_drawn",
  .glo "_law_whole",
  .keep "_law_whole",
  .glo "_law_deals",
  .keep "_law_deals",
  .glo "_law_comers",
  .keep "_law_comers",
  .glo "_law_choices",
  .keep "_law_choices",
  .glo "_law_go_on",
  .keep "_law_go_on",
  .glo "_law_go_back",
  .keep "_law_go_back",
  .glo "_law_draws",
  .keep "_law_draws",
  .glo "_law_settled",
  .keep "_law_settled",
  .glo "_law_seen",
  .keep "_law_seen",
  .glo "_law_without",
  .keep "_law_without",
  .glo "_law_with",
  .keep "_law_with",
  .glo "_law_sound",
  .keep "_law_sound",
  .glo "_law_struck_due",
  .keep "_law_struck_due",
  .glo "_law_told_strike",
  .keep "_law_told_strike",
  .glo "_law_told_allow",
  .keep "_law_told_allow",
  .glo "_law_strikes",
  .keep "_law_strikes",
  .glo "_law_allows",
  .keep "_law_allows",
  .glo "_law_one_deed",
  .keep "_law_one_deed",
  .glo "law",
  .keep "law",
  .free "len",
  .free "sum",
  .free "all",
  .free "max",
  .free "min",
  .free "sorted",
  .free "abs",
  .free "isinstance",
  .free "int",
  .free "tuple",
  .free "list",
  .free "set",
  .free "bool",
  .free "str",
  .free "dict",
  .free "range",
  .free "enumerate",
  .free "zip",
  .int "MOST_PEOPLE" 12,
  .glo "NotOpen",
  .exc "NotOpen",
  .exm "NotOpen" "NotOpen" true]
abbrev fnL : List He.FnD := [
  ⟨("is_integer", none), "is_integer", "is_integer", defArgs s_is_integer, defBody s_is_integer, defScope s_is_integer⟩,
  ⟨("is_within", none), "is_within", "is_within", defArgs s_is_within, defBody s_is_within, defScope s_is_within⟩,
  ⟨("is_pair", none), "is_pair", "is_pair", defArgs s_is_pair, defBody s_is_pair, defScope s_is_pair⟩,
  ⟨("are_ascending", none), "are_ascending", "are_ascending", defArgs s_are_ascending, defBody s_are_ascending, defScope s_are_ascending⟩,
  ⟨("is_lot_of", none), "is_lot_of", "is_lot_of", defArgs s_is_lot_of, defBody s_is_lot_of, defScope s_is_lot_of⟩,
  ⟨("Matching", some "__init__"), "__init__", "Matching.__init__", defArgs s_Matching_init, defBody s_Matching_init, defScope s_Matching_init⟩,
  ⟨("Matching", some "seat"), "seat", "Matching.seat", defArgs s_Matching_seat, defBody s_Matching_seat, defScope s_Matching_seat⟩,
  ⟨("Matching", some "hand_on"), "hand_on", "Matching.hand_on", defArgs s_Matching_hand_on, defBody s_Matching_hand_on, defScope s_Matching_hand_on⟩,
  ⟨("can_be_dealt", none), "can_be_dealt", "can_be_dealt", defArgs s_can_be_dealt, defBody s_can_be_dealt, defScope s_can_be_dealt⟩,
  ⟨("check_stuck", none), "check_stuck", "check_stuck", defArgs s_check_stuck, defBody s_check_stuck, defScope s_check_stuck⟩,
  ⟨("Table", some "__init__"), "__init__", "Table.__init__", defArgs s_Table_init, defBody s_Table_init, defScope s_Table_init⟩,
  ⟨("Table", some "keep"), "keep", "Table.keep", defArgs s_Table_keep, defBody s_Table_keep, defScope s_Table_keep⟩,
  ⟨("Table", some "__eq__"), "__eq__", "Table.__eq__", defArgs s_Table_eq, defBody s_Table_eq, defScope s_Table_eq⟩,
  ⟨("RawTable", some "__init__"), "__init__", "RawTable.__init__", defArgs s_RawTable_init, defBody s_RawTable_init, defScope s_RawTable_init⟩,
  ⟨("RawTable", some "keep"), "keep", "Table.keep", defArgs s_Table_keep, defBody s_Table_keep, defScope s_Table_keep⟩,
  ⟨("RawTable", some "__eq__"), "__eq__", "Table.__eq__", defArgs s_Table_eq, defBody s_Table_eq, defScope s_Table_eq⟩,
  ⟨("is_person", none), "is_person", "is_person", defArgs s_is_person, defBody s_is_person, defScope s_is_person⟩,
  ⟨("check_person", none), "check_person", "check_person", defArgs s_check_person, defBody s_check_person, defScope s_check_person⟩,
  ⟨("check_thing", none), "check_thing", "check_thing", defArgs s_check_thing, defBody s_check_thing, defScope s_check_thing⟩,
  ⟨("check_pair", none), "check_pair", "check_pair", defArgs s_check_pair, defBody s_check_pair, defScope s_check_pair⟩,
  ⟨("with_row", none), "with_row", "with_row", defArgs s_with_row, defBody s_with_row, defScope s_with_row⟩,
  ⟨("with_tie", none), "with_tie", "with_tie", defArgs s_with_tie, defBody s_with_tie, defScope s_with_tie⟩,
  ⟨("without_tie", none), "without_tie", "without_tie", defArgs s_without_tie, defBody s_without_tie, defScope s_without_tie⟩,
  ⟨("bits", none), "bits", "bits", defArgs s_bits, defBody s_bits, defScope s_bits⟩,
  ⟨("without", none), "without", "without", defArgs s_without, defBody s_without, defScope s_without⟩,
  ⟨("has", none), "has", "has", defArgs s_has, defBody s_has, defScope s_has⟩,
  ⟨("least_of", none), "least_of", "least_of", defArgs s_least_of, defBody s_least_of, defScope s_least_of⟩,
  ⟨("Counter", some "__init__"), "__init__", "Counter.__init__", defArgs s_Counter_init, defBody s_Counter_init, defScope s_Counter_init⟩,
  ⟨("Counter", some "of"), "of", "Counter.of", defArgs s_Counter_of, defBody s_Counter_of, defScope s_Counter_of⟩,
  ⟨("Counter", some "among"), "among", "Counter.among", defArgs s_Counter_among, defBody s_Counter_among, defScope s_Counter_among⟩,
  ⟨("left_of", none), "left_of", "left_of", defArgs s_left_of, defBody s_left_of, defScope s_left_of⟩,
  ⟨("many_behind", none), "many_behind", "many_behind", defArgs s_many_behind, defBody s_many_behind, defScope s_many_behind⟩,
  ⟨("opens", none), "opens", "opens", defArgs s_opens, defBody s_opens, defScope s_opens⟩,
  ⟨("openers", none), "openers", "openers", defArgs s_openers, defBody s_openers, defScope s_openers⟩,
  ⟨("after_draw", none), "after_draw", "after_draw", defArgs s_after_draw, defBody s_after_draw, defScope s_after_draw⟩,
  ⟨("known_in", none), "known_in", "known_in", defArgs s_known_in, defBody s_known_in, defScope s_known_in⟩,
  ⟨("settled_in", none), "settled_in", "settled_in", defArgs s_settled_in, defBody s_settled_in, defScope s_settled_in⟩,
  ⟨("drawn_by", none), "drawn_by", "drawn_by", defArgs s_drawn_by, defBody s_drawn_by, defScope s_drawn_by⟩,
  ⟨("nothing_drawn", none), "nothing_drawn", "nothing_drawn", defArgs s_nothing_drawn, defBody s_nothing_drawn, defScope s_nothing_drawn⟩,
  ⟨("waiting_comers", none), "waiting_comers", "waiting_comers", defArgs s_waiting_comers, defBody s_waiting_comers, defScope s_waiting_comers⟩,
  ⟨("Draw", some "__init__"), "__init__", "Draw.__init__", defArgs s_Draw_init, defBody s_Draw_init, defScope s_Draw_init⟩,
  ⟨("Draw", some "change"), "change", "Draw.change", defArgs s_Draw_change, defBody s_Draw_change, defScope s_Draw_change⟩,
  ⟨("Draw", some "check_comer"), "check_comer", "Draw.check_comer", defArgs s_Draw_check_comer, defBody s_Draw_check_comer, defScope s_Draw_check_comer⟩,
  ⟨("Draw", some "choices"), "choices", "Draw.choices", defArgs s_Draw_choices, defBody s_Draw_choices, defScope s_Draw_choices⟩,
  ⟨("Draw", some "open_for"), "open_for", "Draw.open_for", defArgs s_Draw_open_for, defBody s_Draw_open_for, defScope s_Draw_open_for⟩,
  ⟨("Draw", some "draw"), "draw", "Draw.draw", defArgs s_Draw_draw, defBody s_Draw_draw, defScope s_Draw_draw⟩,
  ⟨("Draw", some "strike"), "strike", "Draw.strike", defArgs s_Draw_strike, defBody s_Draw_strike, defScope s_Draw_strike⟩,
  ⟨("Draw", some "allow"), "allow", "Draw.allow", defArgs s_Draw_allow, defBody s_Draw_allow, defScope s_Draw_allow⟩,
  ⟨("Draw", some "standing"), "standing", "Draw.standing", defArgs s_Draw_standing, defBody s_Draw_standing, defScope s_Draw_standing⟩,
  ⟨("Draw", some "history"), "history", "Draw.history", defArgs s_Draw_history, defBody s_Draw_history, defScope s_Draw_history⟩,
  ⟨("Draw", some "table"), "table", "Draw.table", defArgs s_Draw_table, defBody s_Draw_table, defScope s_Draw_table⟩,
  ⟨("Draw", some "many"), "many", "Draw.many", defArgs s_Draw_many, defBody s_Draw_many, defScope s_Draw_many⟩,
  ⟨("Draw", some "settled"), "settled", "Draw.settled", defArgs s_Draw_settled, defBody s_Draw_settled, defScope s_Draw_settled⟩,
  ⟨("Draw", some "back"), "back", "Draw.back", defArgs s_Draw_back, defBody s_Draw_back, defScope s_Draw_back⟩,
  ⟨("Draw", some "deeds"), "deeds", "Draw.deeds", defArgs s_Draw_deeds, defBody s_Draw_deeds, defScope s_Draw_deeds⟩,
  ⟨("Draw", some "copy"), "copy", "Draw.copy", defArgs s_Draw_copy, defBody s_Draw_copy, defScope s_Draw_copy⟩,
  ⟨("_law_pool", none), "_law_pool", "_law_pool", defArgs s_law_pool, defBody s_law_pool, defScope s_law_pool⟩,
  ⟨("_law_draw", none), "_law_draw", "_law_draw", defArgs s_law_draw, defBody s_law_draw, defScope s_law_draw⟩,
  ⟨("_law_mixed", none), "_law_mixed", "_law_mixed", defArgs s_law_mixed, defBody s_law_mixed, defScope s_law_mixed⟩,
  ⟨("_law_blocks", none), "_law_blocks", "_law_blocks", defArgs s_law_blocks, defBody s_law_blocks, defScope s_law_blocks⟩,
  ⟨("_law_rows", none), "_law_rows", "_law_rows", defArgs s_law_rows, defBody s_law_rows, defScope s_law_rows⟩,
  ⟨("_law_all", none), "_law_all", "_law_all", defArgs s_law_all, defBody s_law_all, defScope s_law_all⟩,
  ⟨("_law_fits", none), "_law_fits", "_law_fits", defArgs s_law_fits, defBody s_law_fits, defScope s_law_fits⟩,
  ⟨("_law_drawn", none), "_law_drawn", "_law_drawn", defArgs s_law_drawn, defBody s_law_drawn, defScope s_law_drawn⟩,
  ⟨("_law_whole", none), "_law_whole", "_law_whole", defArgs s_law_whole, defBody s_law_whole, defScope s_law_whole⟩,
  ⟨("_law_deals", none), "_law_deals", "_law_deals", defArgs s_law_deals, defBody s_law_deals, defScope s_law_deals⟩,
  ⟨("_law_comers", none), "_law_comers", "_law_comers", defArgs s_law_comers, defBody s_law_comers, defScope s_law_comers⟩,
  ⟨("_law_choices", none), "_law_choices", "_law_choices", defArgs s_law_choices, defBody s_law_choices, defScope s_law_choices⟩,
  ⟨("_law_go_on", none), "_law_go_on", "_law_go_on", defArgs s_law_go_on, defBody s_law_go_on, defScope s_law_go_on⟩,
  ⟨("_law_go_back", none), "_law_go_back", "_law_go_back", defArgs s_law_go_back, defBody s_law_go_back, defScope s_law_go_back⟩,
  ⟨("_law_draws", none), "_law_draws", "_law_draws", defArgs s_law_draws, defBody s_law_draws, defScope s_law_draws⟩,
  ⟨("_law_settled", none), "_law_settled", "_law_settled", defArgs s_law_settled, defBody s_law_settled, defScope s_law_settled⟩,
  ⟨("_law_seen", none), "_law_seen", "_law_seen", defArgs s_law_seen, defBody s_law_seen, defScope s_law_seen⟩,
  ⟨("_law_without", none), "_law_without", "_law_without", defArgs s_law_without, defBody s_law_without, defScope s_law_without⟩,
  ⟨("_law_with", none), "_law_with", "_law_with", defArgs s_law_with, defBody s_law_with, defScope s_law_with⟩,
  ⟨("_law_sound", none), "_law_sound", "_law_sound", defArgs s_law_sound, defBody s_law_sound, defScope s_law_sound⟩,
  ⟨("_law_struck_due", none), "_law_struck_due", "_law_struck_due", defArgs s_law_struck_due, defBody s_law_struck_due, defScope s_law_struck_due⟩,
  ⟨("_law_told_strike", none), "_law_told_strike", "_law_told_strike", defArgs s_law_told_strike, defBody s_law_told_strike, defScope s_law_told_strike⟩,
  ⟨("_law_told_allow", none), "_law_told_allow", "_law_told_allow", defArgs s_law_told_allow, defBody s_law_told_allow, defScope s_law_told_allow⟩,
  ⟨("_law_strikes", none), "_law_strikes", "_law_strikes", defArgs s_law_strikes, defBody s_law_strikes, defScope s_law_strikes⟩,
  ⟨("_law_allows", none), "_law_allows", "_law_allows", defArgs s_law_allows, defBody s_law_allows, defScope s_law_allows⟩,
  ⟨("_law_one_deed", none), "_law_one_deed", "_law_one_deed", defArgs s_law_one_deed, defBody s_law_one_deed, defScope s_law_one_deed⟩,
  ⟨("law", none), "law", "law", defArgs s_law, defBody s_law, defScope s_law⟩]
def exL (K : PySem.W.Frag) : List Bool := [
  He.eqO (PySem.W.findIn K (.ref (He.ga K "Table")) "__class__") (some (some (.builtin "object.__class__"))),
  decide (PySem.W.mroIn K (He.ga K "Table") (.type "object") = some true),
  He.eqO (PySem.W.findIn K (.ref (He.ga K "Table")) "__ne__") (some (some (.builtin "object.__ne__"))),
  decide (PySem.W.kitOne K (.ref (He.ga K "Table")) (.ref (He.ga K "Table")) = some true),
  PySem.W.notFirst K (He.ga K "Table") (.ref (He.ga K "Table")),
  He.eqO (PySem.W.findIn K (.ref (He.ga K "RawTable")) "__class__") (some (some (.builtin "object.__class__"))),
  decide (PySem.W.mroIn K (He.ga K "RawTable") (.type "object") = some true),
  He.eqO (PySem.W.findIn K (.ref (He.ga K "RawTable")) "__ne__") (some (some (.builtin "object.__ne__"))),
  decide (PySem.W.kitOne K (.ref (He.ga K "RawTable")) (.ref (He.ga K "Table")) = some true),
  PySem.W.notFirst K (He.ga K "RawTable") (.ref (He.ga K "Table")),
  He.eqO (PySem.W.specialIn K (.builtin "object.__class__") "__get__") (some (some (.builtin "getset_descriptor.__get__"))),
  decide (PySem.W.takesIn K (.builtin "object.__class__") = some true)]
theorem exOk {K : PySem.W.Frag} (x : (exL K).all id = true) (i : Nat) {b : Bool} (h : (exL K)[i]? = some b) : b = true := List.all_eq_true.mp x b (List.mem_of_getElem? h)
noncomputable def tpOf {K : PySem.W.Frag} {mg : Str → Option Value} {h : Heap} (X : K.In h) (G : h.Ns mainGlobals mg) (c : He.SaysE faL fnL K) (x : (exL K).all id = true) : Tp K mg where
  is_integer := gfOf X G (c.fact 0) (c.def_ 0) (c.fact 1) (fun _ _ _ _ _ _ us hl => match us, hl with | [_], _ => rfl)
  is_within := gfOf X G (c.fact 2) (c.def_ 1) (c.fact 3) (fun _ _ _ _ _ _ us hl => match us, hl with | [_, _, _], _ => rfl)
  is_pair := gfOf X G (c.fact 4) (c.def_ 2) (c.fact 5) (fun _ _ _ _ _ _ us hl => match us, hl with | [_], _ => rfl)
  are_ascending := gfOf X G (c.fact 6) (c.def_ 3) (c.fact 7) (fun _ _ _ _ _ _ us hl => match us, hl with | [_], _ => rfl)
  is_lot_of := gfOf X G (c.fact 8) (c.def_ 4) (c.fact 9) (fun _ _ _ _ _ _ us hl => match us, hl with | [_, _], _ => rfl)
  Matching := cfOf X G (c.fact 14) (c.fact 15) (na_cons (He.noat_ok (c.fact 13)) (na_cons (He.noat_ok (c.fact 12)) (na_cons (He.noat_ok (c.fact 11)) (na_cons (He.noat_ok (c.fact 10)) na_nil)))) (c.fact 16) (mm := (c.fact 17)) (c.def_ 5) (fun _ _ _ _ _ _ us hl => match us, hl with | [_, _], _ => rfl)
  Matching_seat := mfOf (C := "Matching") (c.fact 18) (c.def_ 6) (fun _ _ _ _ _ _ us hl => match us, hl with | [_, _], _ => rfl)
  Matching_hand_on := mfOf (C := "Matching") (c.fact 19) (c.def_ 7) (fun _ _ _ _ _ _ us hl => match us, hl with | [_, _, _, _], _ => rfl)
  can_be_dealt := gfOf X G (c.fact 20) (c.def_ 8) (c.fact 21) (fun _ _ _ _ _ _ us hl => match us, hl with | [_], _ => rfl)
  check_stuck := gfOf X G (c.fact 22) (c.def_ 9) (c.fact 23) (fun _ _ _ _ _ _ us hl => match us, hl with | [_], _ => rfl)
  Table := cfOf X G (c.fact 26) (c.fact 27) (na_cons (He.noat_ok (c.fact 25)) (na_cons (He.noat_ok (c.fact 24)) na_nil)) (c.fact 28) (mm := (c.fact 29)) (c.def_ 10) (fun _ _ _ _ _ _ us hl => match us, hl with | [_, _], _ => rfl)
  Table_keep := mfOf (C := "Table") (c.fact 30) (c.def_ 11) (fun _ _ _ _ _ _ us hl => match us, hl with | [_, _], _ => rfl)
  Table_eq := mfOf (C := "Table") (c.fact 31) (c.def_ 12) (fun _ _ _ _ _ _ us hl => match us, hl with | [_, _], _ => rfl)
  RawTable := cfOf X G (c.fact 34) (c.fact 35) (na_cons (He.noat_ok (c.fact 33)) (na_cons (He.noat_ok (c.fact 32)) na_nil)) (c.fact 36) (mm := (c.fact 37)) (c.def_ 13) (fun _ _ _ _ _ _ us hl => match us, hl with | [_, _], _ => rfl)
  RawTable_keep := mfOf (C := "RawTable") (c.fact 38) (c.def_ 14) (fun _ _ _ _ _ _ us hl => match us, hl with | [_, _], _ => rfl)
  RawTable_eq := mfOf (C := "RawTable") (c.fact 39) (c.def_ 15) (fun _ _ _ _ _ _ us hl => match us, hl with | [_, _], _ => rfl)
  is_person := gfOf X G (c.fact 40) (c.def_ 16) (c.fact 41) (fun _ _ _ _ _ _ us hl => match us, hl with | [_, _], _ => rfl)
  check_person := gfOf X G (c.fact 42) (c.def_ 17) (c.fact 43) (fun _ _ _ _ _ _ us hl => match us, hl with | [_, _], _ => rfl)
  check_thing := gfOf X G (c.fact 44) (c.def_ 18) (c.fact 45) (fun _ _ _ _ _ _ us hl => match us, hl with | [_, _], _ => rfl)
  check_pair := gfOf X G (c.fact 46) (c.def_ 19) (c.fact 47) (fun _ _ _ _ _ _ us hl => match us, hl with | [_, _, _], _ => rfl)
  with_row := gfOf X G (c.fact 48) (c.def_ 20) (c.fact 49) (fun _ _ _ _ _ _ us hl => match us, hl with | [_, _, _], _ => rfl)
  with_tie := gfOf X G (c.fact 50) (c.def_ 21) (c.fact 51) (fun _ _ _ _ _ _ us hl => match us, hl with | [_, _, _], _ => rfl)
  without_tie := gfOf X G (c.fact 52) (c.def_ 22) (c.fact 53) (fun _ _ _ _ _ _ us hl => match us, hl with | [_, _, _], _ => rfl)
  bits := gfOf X G (c.fact 54) (c.def_ 23) (c.fact 55) (fun _ _ _ _ _ _ us hl => match us, hl with | [_], _ => rfl)
  without := gfOf X G (c.fact 56) (c.def_ 24) (c.fact 57) (fun _ _ _ _ _ _ us hl => match us, hl with | [_, _], _ => rfl)
  has := gfOf X G (c.fact 58) (c.def_ 25) (c.fact 59) (fun _ _ _ _ _ _ us hl => match us, hl with | [_, _], _ => rfl)
  least_of := gfOf X G (c.fact 60) (c.def_ 26) (c.fact 61) (fun _ _ _ _ _ _ us hl => match us, hl with | [_], _ => rfl)
  Counter := cfOf X G (c.fact 65) (c.fact 66) (na_cons (He.noat_ok (c.fact 64)) (na_cons (He.noat_ok (c.fact 63)) (na_cons (He.noat_ok (c.fact 62)) na_nil))) (c.fact 67) (mm := (c.fact 68)) (c.def_ 27) (fun _ _ _ _ _ _ us hl => match us, hl with | [_, _], _ => rfl)
  Counter_of := mfOf (C := "Counter") (c.fact 69) (c.def_ 28) (fun _ _ _ _ _ _ us hl => match us, hl with | [_, _, _], _ => rfl)
  Counter_among := mfOf (C := "Counter") (c.fact 70) (c.def_ 29) (fun _ _ _ _ _ _ us hl => match us, hl with | [_, _, _], _ => rfl)
  left_of := gfOf X G (c.fact 71) (c.def_ 30) (c.fact 72) (fun _ _ _ _ _ _ us hl => match us, hl with | [_], _ => rfl)
  many_behind := gfOf X G (c.fact 73) (c.def_ 31) (c.fact 74) (fun _ _ _ _ _ _ us hl => match us, hl with | [_, _], _ => rfl)
  opens := gfOf X G (c.fact 75) (c.def_ 32) (c.fact 76) (fun _ _ _ _ _ _ us hl => match us, hl with | [_, _, _, _], _ => rfl)
  openers := gfOf X G (c.fact 77) (c.def_ 33) (c.fact 78) (fun _ _ _ _ _ _ us hl => match us, hl with | [_, _, _, _], _ => rfl)
  after_draw := gfOf X G (c.fact 79) (c.def_ 34) (c.fact 80) (fun _ _ _ _ _ _ us hl => match us, hl with | [_, _, _], _ => rfl)
  known_in := gfOf X G (c.fact 81) (c.def_ 35) (c.fact 82) (fun _ _ _ _ _ _ us hl => match us, hl with | [_, _, _], _ => rfl)
  settled_in := gfOf X G (c.fact 83) (c.def_ 36) (c.fact 84) (fun _ _ _ _ _ _ us hl => match us, hl with | [_, _], _ => rfl)
  drawn_by := gfOf X G (c.fact 85) (c.def_ 37) (c.fact 86) (fun _ _ _ _ _ _ us hl => match us, hl with | [_, _, _], _ => rfl)
  nothing_drawn := gfOf X G (c.fact 87) (c.def_ 38) (c.fact 88) (fun _ _ _ _ _ _ us hl => match us, hl with | [_], _ => rfl)
  waiting_comers := gfOf X G (c.fact 89) (c.def_ 39) (c.fact 90) (fun _ _ _ _ _ _ us hl => match us, hl with | [_], _ => rfl)
  Draw := cfOf X G (c.fact 93) (c.fact 94) (na_cons (He.noat_ok (c.fact 92)) (na_cons (He.noat_ok (c.fact 91)) na_nil)) (c.fact 95) (mm := (c.fact 96)) (c.def_ 40) (fun _ _ _ _ _ _ us hl => match us, hl with | [_, _], _ => rfl)
  Draw_change := mfOf (C := "Draw") (c.fact 97) (c.def_ 41) (fun _ _ _ _ _ _ us hl => match us, hl with | [_, _, _, _], _ => rfl)
  Draw_check_comer := mfOf (C := "Draw") (c.fact 98) (c.def_ 42) (fun _ _ _ _ _ _ us hl => match us, hl with | [_, _], _ => rfl)
  Draw_choices := mfOf (C := "Draw") (c.fact 99) (c.def_ 43) (fun _ _ _ _ _ _ us hl => match us, hl with | [_, _], _ => rfl)
  Draw_open_for := mfOf (C := "Draw") (c.fact 100) (c.def_ 44) (fun _ _ _ _ _ _ us hl => match us, hl with | [_, _], _ => rfl)
  Draw_draw := mfOf (C := "Draw") (c.fact 101) (c.def_ 45) (fun _ _ _ _ _ _ us hl => match us, hl with | [_, _, _], _ => rfl)
  Draw_strike := mfOf (C := "Draw") (c.fact 102) (c.def_ 46) (fun _ _ _ _ _ _ us hl => match us, hl with | [_, _, _], _ => rfl)
  Draw_allow := mfOf (C := "Draw") (c.fact 103) (c.def_ 47) (fun _ _ _ _ _ _ us hl => match us, hl with | [_, _, _], _ => rfl)
  Draw_standing := mfOf (C := "Draw") (c.fact 104) (c.def_ 48) (fun _ _ _ _ _ _ us hl => match us, hl with | [_], _ => rfl)
  Draw_history := mfOf (C := "Draw") (c.fact 105) (c.def_ 49) (fun _ _ _ _ _ _ us hl => match us, hl with | [_], _ => rfl)
  Draw_table := mfOf (C := "Draw") (c.fact 106) (c.def_ 50) (fun _ _ _ _ _ _ us hl => match us, hl with | [_], _ => rfl)
  Draw_many := mfOf (C := "Draw") (c.fact 107) (c.def_ 51) (fun _ _ _ _ _ _ us hl => match us, hl with | [_], _ => rfl)
  Draw_settled := mfOf (C := "Draw") (c.fact 108) (c.def_ 52) (fun _ _ _ _ _ _ us hl => match us, hl with | [_], _ => rfl)
  Draw_back := mfOf (C := "Draw") (c.fact 109) (c.def_ 53) (fun _ _ _ _ _ _ us hl => match us, hl with | [_], _ => rfl)
  Draw_deeds := mfOf (C := "Draw") (c.fact 110) (c.def_ 54) (fun _ _ _ _ _ _ us hl => match us, hl with | [_], _ => rfl)
  Draw_copy := mfOf (C := "Draw") (c.fact 111) (c.def_ 55) (fun _ _ _ _ _ _ us hl => match us, hl with | [_], _ => rfl)
  law_pool := gfOf X G (c.fact 112) (c.def_ 56) (c.fact 113) (fun _ _ _ _ _ _ us hl => match us, hl with | [_], _ => rfl)
  law_draw := gfOf X G (c.fact 114) (c.def_ 57) (c.fact 115) (fun _ _ _ _ _ _ us hl => match us, hl with | [_, _], _ => rfl)
  law_mixed := gfOf X G (c.fact 116) (c.def_ 58) (c.fact 117) (fun _ _ _ _ _ _ us hl => match us, hl with | [_, _], _ => rfl)
  law_blocks := gfOf X G (c.fact 118) (c.def_ 59) (c.fact 119) (fun _ _ _ _ _ _ us hl => match us, hl with | [_, _], _ => rfl)
  law_rows := gfOf X G (c.fact 120) (c.def_ 60) (c.fact 121) (fun _ _ _ _ _ _ us hl => match us, hl with | [_, _], _ => rfl)
  law_all := gfOf X G (c.fact 122) (c.def_ 61) (c.fact 123) (fun _ _ _ _ _ _ us hl => match us, hl with | [_], _ => rfl)
  law_fits := gfOf X G (c.fact 124) (c.def_ 62) (c.fact 125) (fun _ _ _ _ _ _ us hl => match us, hl with | [_, _], _ => rfl)
  law_drawn := gfOf X G (c.fact 126) (c.def_ 63) (c.fact 127) (fun _ _ _ _ _ _ us hl => match us, hl with | [_, _, _], _ => rfl)
  law_whole := gfOf X G (c.fact 128) (c.def_ 64) (c.fact 129) (fun _ _ _ _ _ _ us hl => match us, hl with | [_, _], _ => rfl)
  law_deals := gfOf X G (c.fact 130) (c.def_ 65) (c.fact 131) (fun _ _ _ _ _ _ us hl => match us, hl with | [_], _ => rfl)
  law_comers := gfOf X G (c.fact 132) (c.def_ 66) (c.fact 133) (fun _ _ _ _ _ _ us hl => match us, hl with | [_], _ => rfl)
  law_choices := gfOf X G (c.fact 134) (c.def_ 67) (c.fact 135) (fun _ _ _ _ _ _ us hl => match us, hl with | [_, _], _ => rfl)
  law_go_on := gfOf X G (c.fact 136) (c.def_ 68) (c.fact 137) (fun _ _ _ _ _ _ us hl => match us, hl with | [_, _, _, _], _ => rfl)
  law_go_back := gfOf X G (c.fact 138) (c.def_ 69) (c.fact 139) (fun _ _ _ _ _ _ us hl => match us, hl with | [_], _ => rfl)
  law_draws := gfOf X G (c.fact 140) (c.def_ 70) (c.fact 141) (fun _ _ _ _ _ _ us hl => match us, hl with | [_, _, _], _ => rfl)
  law_settled := gfOf X G (c.fact 142) (c.def_ 71) (c.fact 143) (fun _ _ _ _ _ _ us hl => match us, hl with | [_], _ => rfl)
  law_seen := gfOf X G (c.fact 144) (c.def_ 72) (c.fact 145) (fun _ _ _ _ _ _ us hl => match us, hl with | [_, _], _ => rfl)
  law_without := gfOf X G (c.fact 146) (c.def_ 73) (c.fact 147) (fun _ _ _ _ _ _ us hl => match us, hl with | [_, _, _], _ => rfl)
  law_with := gfOf X G (c.fact 148) (c.def_ 74) (c.fact 149) (fun _ _ _ _ _ _ us hl => match us, hl with | [_, _, _], _ => rfl)
  law_sound := gfOf X G (c.fact 150) (c.def_ 75) (c.fact 151) (fun _ _ _ _ _ _ us hl => match us, hl with | [_, _], _ => rfl)
  law_struck_due := gfOf X G (c.fact 152) (c.def_ 76) (c.fact 153) (fun _ _ _ _ _ _ us hl => match us, hl with | [_, _, _], _ => rfl)
  law_told_strike := gfOf X G (c.fact 154) (c.def_ 77) (c.fact 155) (fun _ _ _ _ _ _ us hl => match us, hl with | [_, _, _], _ => rfl)
  law_told_allow := gfOf X G (c.fact 156) (c.def_ 78) (c.fact 157) (fun _ _ _ _ _ _ us hl => match us, hl with | [_, _, _], _ => rfl)
  law_strikes := gfOf X G (c.fact 158) (c.def_ 79) (c.fact 159) (fun _ _ _ _ _ _ us hl => match us, hl with | [_, _, _], _ => rfl)
  law_allows := gfOf X G (c.fact 160) (c.def_ 80) (c.fact 161) (fun _ _ _ _ _ _ us hl => match us, hl with | [_, _, _], _ => rfl)
  law_one_deed := gfOf X G (c.fact 162) (c.def_ 81) (c.fact 163) (fun _ _ _ _ _ _ us hl => match us, hl with | [_, _, _], _ => rfl)
  law := gfOf X G (c.fact 164) (c.def_ 82) (c.fact 165) (fun _ _ _ _ _ _ us hl => match us, hl with | [_], _ => rfl)
  b_len := He.free_ok X G (c.fact 166)
  b_sum := He.free_ok X G (c.fact 167)
  b_all := He.free_ok X G (c.fact 168)
  b_max := He.free_ok X G (c.fact 169)
  b_min := He.free_ok X G (c.fact 170)
  b_sorted := He.free_ok X G (c.fact 171)
  b_abs := He.free_ok X G (c.fact 172)
  b_isinstance := He.free_ok X G (c.fact 173)
  b_int := He.free_ok X G (c.fact 174)
  b_tuple := He.free_ok X G (c.fact 175)
  b_list := He.free_ok X G (c.fact 176)
  b_set := He.free_ok X G (c.fact 177)
  b_bool := He.free_ok X G (c.fact 178)
  b_str := He.free_ok X G (c.fact 179)
  b_dict := He.free_ok X G (c.fact 180)
  b_range := He.free_ok X G (c.fact 181)
  b_enumerate := He.free_ok X G (c.fact 182)
  b_zip := He.free_ok X G (c.fact 183)
  MOST := Classical.choose (He.int_ok X G (c.fact 184))
  mMOST := Classical.choose_spec (He.int_ok X G (c.fact 184))
  ha_Table := He.eqO_ok (exOk x 0 rfl)
  hm_Table := of_decide_eq_true (exOk x 1 rfl)
  ne_Table := He.eqO_ok (exOk x 2 rfl)
  ko_Table := of_decide_eq_true (exOk x 3 rfl)
  nf_Table := exOk x 4 rfl
  ha_RawTable := He.eqO_ok (exOk x 5 rfl)
  hm_RawTable := of_decide_eq_true (exOk x 6 rfl)
  ne_RawTable := He.eqO_ok (exOk x 7 rfl)
  ko_RawTable := of_decide_eq_true (exOk x 8 rfl)
  nf_RawTable := exOk x 9 rfl
  hn := He.eqO_ok (exOk x 10 rfl)
  htk := of_decide_eq_true (exOk x 11 rfl)
  NO := He.ga K "NotOpen"
  mNO := He.glo_ok X G (c.fact 185)
  xNO := (He.exc_ok (c.fact 186)).1
  kNO := (He.exc_ok (c.fact 186)).2.1
  bNO := (He.exc_ok (c.fact 186)).2.2.1
  tNO := (He.exc_ok (c.fact 186)).2.2.2
  eNO := He.exm_ok (x := "NotOpen") (y := "NotOpen") (c.fact 187)
end Fo
set_option Elab.async false
set_option linter.all false
set_option maxRecDepth 100000
/-! The end, but for the head. -/
namespace Fo
open PySem PySem.Spec PyProof.Rows L2
theorem endF {P : Program} {w : World} {K : PySem.W.Frag} {mg : Str → Option Value} {h : Heap} {fa : Addr} (X : K.In h) (G : h.Ns mainGlobals mg) (hm : mg "law" = some (.ref fa)) (c : He.SaysE faL fnL K) (x : (exL K).all id = true) :
    ∃ fd : FuncData, (∀ (s : Shared) (v : Value), BindsTo s fd ⟨[v], []⟩ [("_law_script", v)]) ∧ ∀ base : Heap, K.In base → base.Ns mainGlobals mg → FnOk P w K mg base CX0 14 fa fd ["_law_script"] (spLaw K) := by
  let T : Tp K mg := tpOf X G c x
  have e := hm.symm.trans T.law.m
  cases e
  obtain ⟨oc, od, kV, doc, pm, an, cdv, ct, osl, efd, l, cc⟩ := T.law.F.ex
  exact ⟨T.law.fd, fun s v => by rw [efd]; exact .of_eq rfl, fun base _ _ => ok_law T⟩
theorem walk {l : PySem.W.OpenLaw} {q : Program} {loose : List Str} {XP : (Str → Option Value) → Heap → Prop} {YP : World → Heap → Prop} {d : DefRec} {K : Params → PySem.W.Frag} (hn : l.most = some 63) (hdf : d.params.defaults = []) (hd : d.name = "law")
    (hY : ∀ (w : World) (h : Heap), YP w h → (K w.params).In h) (c : ∀ p : Params, He.SaysE faL fnL (K p)) (x : ∀ p : Params, (exL (K p)).all id = true) :
    PySem.W.WalkO q loose XP YP l.row.toRowW d [] (fun f vs => PySem.call f vs) :=
  L2.walk_of (n := 63) (k := 14) (x := "_law_script") (CX := fun _ => CX0) (sp := fun w => spLaw (K w.params)) hn (by decide) hdf ⟨rfl, by decide, by decide⟩ hY (fun w mg fa h KX G hmg => endF KX G (by rw [← hd]; exact hmg) (c w.params) (x w.params)) (fun _ _ a ns hl _ hS => ⟨a, ns, rfl, hS, hl, fun _ => rfl⟩) fun _ _ _ _ _ z => z
end Fo
set_option Elab.async false
set_option linter.all false
open PySem PySem.W PyProof.Rows
set_option maxRecDepth 100000 in
set_option maxHeartbeats 0 in
theorem PySem.Challenge.cw_fullorring_k89_whole_ties_struck_and_all_holds : PySem.Challenge.rw_fullorring_k89_whole_ties_struck_and_all.Holds := by
  w_on; o_law; k_head; (case hw => w_witness2)
  k_fill
  refine Fo.walk (l := PySem.Challenge.rw_fullorring_k89_whole_ties_struck_and_all) rfl rfl rfl (fun w h Y => PySem.W.kIn_of Y) ?c ?x
  case c => exact fun p => (show He.obsE Fo.faL Fo.fnL _ = He.valE Fo.fnL by kernel_rfl)
  case x => exact fun p => (by kernel_rfl)
