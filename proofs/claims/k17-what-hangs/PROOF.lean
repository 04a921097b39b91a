import PyProof.Rows.All
import Wide.All
import OpenK.AllK
import Wide.FinOn
import KE.KStateDown
import Lean
import HandS.ForMost
import HandS.More
import HandS.Exc
import HandS.WordsExc
import HandS.Defaults
import HandS.Wide
import HandS.Style
import HandS.DictComp
import HandS.Head0
import HandS.Head1
import HandS.Head2
import HandS.HeadEnd
import HandS.HeadHook1
import HandS.HeadHook2
import HandS.TupAny
import HandS.TupMul
import HandS.IsInst
import PyProof.DictUpdate
import HandS.StrMore
import KE.KUnpackStar
import KE.GoesMore
import KE.GoesEnum
import HandS.RaiseMore
import HandS.EndBits
import PySem.Challenge.RW_pointhouse_k17_what_hangs_on_what
set_option Elab.async false
set_option linter.all false
set_option maxRecDepth 100000
set_option maxHeartbeats 4000000
namespace Ly
open PySem PySem.Spec PyProof.Rows L2

/-! ### data: what a value is, deeply; ref n: the n-th of the cells that may change -/
inductive D where
  | non | bl (b : Bool) | int (i : Int) | str (x : Str) | ty (n : String) | adr (a : Addr)
  | tup (ds : List D) | lst (ds : List D) | scr (ds : List D) | dic (kvs : List (Key × D)) | obj (c : Str) (fs : List (Str × D))
  | ref (n : Nat)
inductive Cell where
  | lst (ds : List D) | dic (kvs : List (Key × D)) | obj (c : Str) (fs : List (Str × D))
abbrev Mem := List Cell
abbrev Env := List (Option D)

theorem nodup_at {α : Type} {N : List α} (hN : N.Nodup) {i j : Nat} {x : α} (a : N[i]? = some x) (b : N[j]? = some x) : i = j := by
  obtain ⟨h1, e1⟩ := List.getElem?_eq_some_iff.mp a
  obtain ⟨h2, e2⟩ := List.getElem?_eq_some_iff.mp b
  exact (List.getElem_inj hN).mp (e1.trans e2.symm)
/-- l: the cells' addresses; z: things that are being built, out of sight -/
structure Wd where
  l : List Addr
  z : List Addr
def Out (L : Wd) (a : Addr) : Prop := a ∉ L.l ∧ a ∉ L.z
def Wd.add (L : Wd) (p : Addr) : Wd := ⟨L.l ++ [p], L.z⟩
def Wd.hide (L : Wd) (p : Addr) : Wd := ⟨L.l, p :: L.z⟩
theorem out_ne {L : Wd} {p a : Addr} (h : Out (L.hide p) a) : a ≠ p := fun z => h.2 (by rw [z]; exact List.mem_cons_self)
/-- a list, a tuple, that stands in the written part -/
def KTup (K : PySem.W.Frag) (a : Addr) (xs : List V) : Prop := ∃ (o : Obj) (its : Array Value) (n : Nat), K.lookup a = some o ∧ o.cls = .type "tuple" ∧ o.data = .seq its n ∧ its.size ≤ sizeLine ∧ Vals xs its.toList
def KLst (K : PySem.W.Frag) (a : Addr) (xs : List V) : Prop := ∃ (o : Obj) (its : Array Value) (n : Nat), K.lookup a = some o ∧ o.cls = .type "list" ∧ o.dict = none ∧ o.data = .seq its n ∧ its.size ≤ sizeLine ∧ Vals xs its.toList

section
variable (K : PySem.W.Frag) (L : Wd) (H : Hp)
mutual
inductive Is : D → V → Prop
  | non : Is .non .non
  | bl (b : Bool) : Is (.bl b) (.bl b)
  | int (i : Int) : Is (.int i) (.int i)
  | str (x : Str) : Is (.str x) (.str x)
  | ty (n : String) : Is (.ty n) (.ty n)
  | adr (a : Addr) : Is (.adr a) (.ref a)
  | tup {ds : List D} {a : Addr} {vs : List V} : Rd H a (.tup vs) → Out L a → IsL ds vs → Is (.tup ds) (.ref a)
  | tupK {ds : List D} {a : Addr} {vs : List V} : KTup K a vs → IsL ds vs → Is (.tup ds) (.ref a)
  | lst {ds : List D} {a : Addr} {vs : List V} : H a = some (.lst vs) → Out L a → IsL ds vs → Is (.lst ds) (.ref a)
  | scr {ds : List D} {a : Addr} {vs : List V} : Rd H a (.lst vs) → Out L a → IsL ds vs → Is (.scr ds) (.ref a)
  | scrK {ds : List D} {a : Addr} {vs : List V} : KLst K a vs → IsL ds vs → Is (.scr ds) (.ref a)
  | dic {kvs : List (Key × D)} {a : Addr} {kws : List (Key × V)} : H a = some (.dK kws) → Out L a → IsKV kvs kws → Is (.dic kvs) (.ref a)
  | obj {c : Str} {fs : List (Str × D)} {a dx : Addr} {gs : List (Str × V)} : H a = some (.ins (He.ga K c) dx gs) → Out L a → IsFs fs gs → Is (.obj c fs) (.ref a)
  | ref {n : Nat} {a : Addr} : L.l[n]? = some a → Is (.ref n) (.ref a)
inductive IsL : List D → List V → Prop
  | nil : IsL [] []
  | cons {d : D} {v : V} {ds : List D} {vs : List V} : Is d v → IsL ds vs → IsL (d :: ds) (v :: vs)
inductive IsKV : List (Key × D) → List (Key × V) → Prop
  | nil : IsKV [] []
  | cons {k : Key} {d : D} {v : V} {ds : List (Key × D)} {vs : List (Key × V)} : Is d v → IsKV ds vs → IsKV ((k, d) :: ds) ((k, v) :: vs)
inductive IsFs : List (Str × D) → List (Str × V) → Prop
  | nil : IsFs [] []
  | cons {k : Str} {d : D} {v : V} {ds : List (Str × D)} {vs : List (Str × V)} : Is d v → IsFs ds vs → IsFs ((k, d) :: ds) ((k, v) :: vs)
end
def CellIs : Cell → Addr → Prop
  | .lst ds, a => ∃ vs, H a = some (.lst vs) ∧ IsL K L H ds vs
  | .dic kvs, a => ∃ kws, H a = some (.dK kws) ∧ IsKV K L H kvs kws
  | .obj c fs, a => ∃ dx gs, H a = some (.ins (He.ga K c) dx gs) ∧ IsFs K L H fs gs
structure MemIs (M : Mem) : Prop where
  len : L.l.length = M.length
  nd : L.l.Nodup
  cell : ∀ (n : Nat) a c, L.l[n]? = some a → M[n]? = some c → CellIs K L H c a
  hid : ∀ a ∈ L.z, a ∉ L.l ∧ ∃ o, H a = some o
structure EnvIs (env : Env) (σ : L2.St) : Prop where
  len : env.length = σ.length
  at_ : ∀ (i : Nat) d, env[i]? = some (some d) → ∃ v, σ[i]? = some (some v) ∧ Is K L H d v
end
/-- what may have come: cells more; what is no cell stays -/
structure Step (L : Wd) (H : Hp) (L' : Wd) (H' : Hp) : Prop where
  more : ∃ l, L'.l = L.l ++ l
  same : L'.z = L.z
  hid : ∀ a ∈ L.z, H' a = H a
  keep : ∀ a o, H a = some o → Out L a → H' a = some o ∧ Out L' a

/-- the same facts of data -/
structure Mv (L : Wd) (H : Hp) (L' : Wd) (H' : Hp) : Prop where
  get : ∀ (n : Nat) a, L.l[n]? = some a → L'.l[n]? = some a
  keep : ∀ a o, H a = some o → Out L a → H' a = some o ∧ Out L' a
section
variable {K : PySem.W.Frag} {L L' L1 L2' : Wd} {H H' H1 H2 : Hp}
theorem Step.refl : Step L H L H := ⟨⟨[], by simp⟩, rfl, fun _ _ => rfl, fun a o e n => ⟨e, n⟩⟩
theorem Step.trans (a : Step L H L1 H1) (b : Step L1 H1 L' H') : Step L H L' H' := by
  obtain ⟨l, e⟩ := a.more
  obtain ⟨m, e'⟩ := b.more
  exact ⟨⟨l ++ m, by rw [e', e, List.append_assoc]⟩, b.same.trans a.same, fun x h => (b.hid x (by rw [a.same]; exact h)).trans (a.hid x h), fun x o h n => b.keep x o (a.keep x o h n).1 (a.keep x o h n).2⟩
theorem Step.mv (s : Step L H L' H') : Mv L H L' H' := ⟨fun n a h => by
  obtain ⟨l, e⟩ := s.more
  rw [e, List.getElem?_append_left (List.getElem?_eq_some_iff.mp h).1]
  exact h, s.keep⟩
theorem Mv.trans (a : Mv L H L1 H1) (b : Mv L1 H1 L' H') : Mv L H L' H' := ⟨fun n x h => b.get n x (a.get n x h), fun x o h n => b.keep x o (a.keep x o h n).1 (a.keep x o h n).2⟩
theorem Mv.refl : Mv L H L H := ⟨fun _ _ h => h, fun _ _ e n => ⟨e, n⟩⟩
theorem rd_mv (s : Mv L H L' H') {a : Addr} {u : HO} (h : Rd H a u) (n : Out L a) : Rd H' a u ∧ Out L' a := by
  rcases h with h | ⟨o, h⟩
  · exact ⟨.inl (s.keep _ _ h n).1, (s.keep _ _ h n).2⟩
  · exact ⟨.inr ⟨o, (s.keep _ _ h n).1⟩, (s.keep _ _ h n).2⟩
mutual
theorem Is.mv (s : Mv L H L' H') : ∀ {d : D} {v : V}, Is K L H d v → Is K L' H' d v
  | _, _, .non => .non
  | _, _, .bl b => .bl b
  | _, _, .int i => .int i
  | _, _, .str x => .str x
  | _, _, .ty n => .ty n
  | _, _, .adr a => .adr a
  | _, _, .tup h n r => .tup (rd_mv s h n).1 (rd_mv s h n).2 (IsL.mv s r)
  | _, _, .tupK h r => .tupK h (IsL.mv s r)
  | _, _, .lst h n r => .lst (s.keep _ _ h n).1 (s.keep _ _ h n).2 (IsL.mv s r)
  | _, _, .scr h n r => .scr (rd_mv s h n).1 (rd_mv s h n).2 (IsL.mv s r)
  | _, _, .scrK h r => .scrK h (IsL.mv s r)
  | _, _, .dic h n r => .dic (s.keep _ _ h n).1 (s.keep _ _ h n).2 (IsKV.mv s r)
  | _, _, .obj h n r => .obj (s.keep _ _ h n).1 (s.keep _ _ h n).2 (IsFs.mv s r)
  | _, _, .ref h => .ref (s.get _ _ h)
theorem IsL.mv (s : Mv L H L' H') : ∀ {ds : List D} {vs : List V}, IsL K L H ds vs → IsL K L' H' ds vs
  | _, _, .nil => .nil
  | _, _, .cons a b => .cons (Is.mv s a) (IsL.mv s b)
theorem IsKV.mv (s : Mv L H L' H') : ∀ {ds : List (Key × D)} {vs : List (Key × V)}, IsKV K L H ds vs → IsKV K L' H' ds vs
  | _, _, .nil => .nil
  | _, _, .cons a b => .cons (Is.mv s a) (IsKV.mv s b)
theorem IsFs.mv (s : Mv L H L' H') : ∀ {ds : List (Str × D)} {vs : List (Str × V)}, IsFs K L H ds vs → IsFs K L' H' ds vs
  | _, _, .nil => .nil
  | _, _, .cons a b => .cons (Is.mv s a) (IsFs.mv s b)
end
theorem Is.step (s : Step L H L' H') {d : D} {v : V} (h : Is K L H d v) : Is K L' H' d v := h.mv s.mv
theorem IsL.step (s : Step L H L' H') {d : List D} {v : List V} (h : IsL K L H d v) : IsL K L' H' d v := h.mv s.mv
theorem IsKV.step (s : Step L H L' H') {d : List (Key × D)} {v : List (Key × V)} (h : IsKV K L H d v) : IsKV K L' H' d v := h.mv s.mv
theorem IsFs.step (s : Step L H L' H') {d : List (Str × D)} {v : List (Str × V)} (h : IsFs K L H d v) : IsFs K L' H' d v := h.mv s.mv
theorem EnvIs.mv (s : Mv L H L' H') {env : Env} {σ : L2.St} (h : EnvIs K L H env σ) : EnvIs K L' H' env σ :=
  ⟨h.len, fun i d e => let ⟨v, a, b⟩ := h.at_ i d e; ⟨v, a, b.mv s⟩⟩
theorem EnvIs.step (s : Step L H L' H') {env : Env} {σ : L2.St} (h : EnvIs K L H env σ) : EnvIs K L' H' env σ := h.mv s.mv
theorem CellIs.mv {c : Cell} {a : Addr} (s : Mv L H L' H') (e : H' a = H a) (h : CellIs K L H c a) : CellIs K L' H' c a := by
  cases c with
  | lst ds => exact let ⟨vs, q, r⟩ := h; ⟨vs, e.trans q, r.mv s⟩
  | dic kvs => exact let ⟨vs, q, r⟩ := h; ⟨vs, e.trans q, r.mv s⟩
  | obj c fs => exact let ⟨dx, vs, q, r⟩ := h; ⟨dx, vs, e.trans q, r.mv s⟩
theorem CellIs.mono {c : Cell} {a : Addr} (s : Step L H L' H') (e : H' a = H a) (h : CellIs K L H c a) : CellIs K L' H' c a := h.mv s.mv e
theorem IsL.length : ∀ {ds : List D} {vs : List V}, IsL K L H ds vs → ds.length = vs.length
  | _, _, .nil => rfl
  | _, _, .cons _ b => by rw [List.length_cons, List.length_cons, IsL.length b]
theorem IsL.append : ∀ {ds es : List D} {vs ws : List V}, IsL K L H ds vs → IsL K L H es ws → IsL K L H (ds ++ es) (vs ++ ws)
  | _, _, _, _, .nil, s => s
  | _, _, _, _, .cons r t, s => .cons r (IsL.append t s)
theorem IsL.get : ∀ {ds : List D} {vs : List V} {i : Nat} {d : D}, IsL K L H ds vs → ds[i]? = some d → ∃ v, vs[i]? = some v ∧ Is K L H d v
  | _, _, _, _, .nil, e => by simp at e
  | _, _, 0, _, .cons r _, e => by simp at e; subst e; exact ⟨_, rfl, r⟩
  | _, _, i + 1, d, .cons _ t, e => by
    obtain ⟨u, h1, h2⟩ := IsL.get (i := i) (d := d) t (by simpa using e)
    exact ⟨u, by simpa using h1, h2⟩
theorem IsL.getV : ∀ {ds : List D} {vs : List V} {i : Nat} {v : V}, IsL K L H ds vs → vs[i]? = some v → ∃ d, ds[i]? = some d ∧ Is K L H d v
  | _, _, _, _, .nil, e => by simp at e
  | _, _, 0, _, .cons r _, e => by simp at e; subst e; exact ⟨_, rfl, r⟩
  | _, _, i + 1, d, .cons _ t, e => by
    obtain ⟨u, h1, h2⟩ := IsL.getV (i := i) (v := d) t (by simpa using e)
    exact ⟨u, by simpa using h1, h2⟩
theorem IsL.set {d : D} {v : V} (r : Is K L H d v) : ∀ {ds : List D} {vs : List V} (i : Nat), IsL K L H ds vs → IsL K L H (ds.set i d) (vs.set i v)
  | _, _, _, .nil => .nil
  | _, _, 0, .cons _ t => .cons r t
  | _, _, i + 1, .cons q t => .cons q (IsL.set r i t)
theorem IsL.take : ∀ {ds : List D} {vs : List V} (n : Nat), IsL K L H ds vs → IsL K L H (ds.take n) (vs.take n)
  | _, _, 0, _ => .nil
  | _, _, _ + 1, .nil => .nil
  | _, _, n + 1, .cons r t => .cons r (IsL.take n t)
theorem IsL.drop : ∀ {ds : List D} {vs : List V} (n : Nat), IsL K L H ds vs → IsL K L H (ds.drop n) (vs.drop n)
  | _, _, 0, r => r
  | _, _, _ + 1, .nil => .nil
  | _, _, n + 1, .cons _ t => IsL.drop n t
theorem IsL.reverse : ∀ {ds : List D} {vs : List V}, IsL K L H ds vs → IsL K L H ds.reverse vs.reverse
  | _, _, .nil => .nil
  | _, _, .cons r t => by
    rw [List.reverse_cons, List.reverse_cons]
    exact (IsL.reverse t).append (.cons r .nil)
theorem EnvIs.set {env : Env} {σ : L2.St} {d : D} {v : V} (h : EnvIs K L H env σ) (i : Nat) (r : Is K L H d v) : EnvIs K L H (env.set i (some d)) (σ.set i (some v)) := by
  refine ⟨by rw [List.length_set, List.length_set, h.len], fun j e q => ?_⟩
  by_cases hj : i = j
  · subst hj
    have hlt : i < env.length := by
      have := (List.getElem?_eq_some_iff.mp q).1
      rwa [List.length_set] at this
    rw [List.getElem?_set_self hlt] at q
    cases q
    exact ⟨v, List.getElem?_set_self (by rw [← h.len]; exact hlt), r⟩
  · rw [List.getElem?_set_ne hj] at q
    obtain ⟨w, a, b⟩ := h.at_ j e q
    exact ⟨w, by rw [List.getElem?_set_ne hj]; exact a, b⟩
theorem EnvIs.drop {env : Env} {σ : L2.St} (h : EnvIs K L H env σ) (i : Nat) : EnvIs K L H (env.set i none) σ := by
  refine ⟨by rw [List.length_set, h.len], fun j e q => ?_⟩
  by_cases hj : i = j
  · subst hj
    have hlt : i < env.length := by
      have := (List.getElem?_eq_some_iff.mp q).1
      rwa [List.length_set] at this
    rw [List.getElem?_set_self hlt] at q
    cases q
  · rw [List.getElem?_set_ne hj] at q
    exact h.at_ j e q
/-! ### cells: new ones, changed ones -/
theorem MemIs.addr {M : Mem} (m : MemIs K L H M) {n : Nat} {c : Cell} (h : M[n]? = some c) : ∃ a, L.l[n]? = some a ∧ CellIs K L H c a := by
  have hl : n < L.l.length := by rw [m.len]; exact (List.getElem?_eq_some_iff.mp h).1
  exact ⟨L.l[n], List.getElem?_eq_getElem hl, m.cell n _ c (List.getElem?_eq_getElem hl) h⟩
theorem CellIs.some {c : Cell} {a : Addr} (h : CellIs K L H c a) : ∃ o, H a = some o := by
  cases c with
  | lst ds => exact let ⟨vs, e, _⟩ := h; ⟨_, e⟩
  | dic kvs => exact let ⟨vs, e, _⟩ := h; ⟨_, e⟩
  | obj c fs => exact let ⟨_, vs, e, _⟩ := h; ⟨_, e⟩
theorem MemIs.there {M : Mem} (m : MemIs K L H M) {a : Addr} (h : a ∈ L.l) : ∃ o, H a = some o := by
  obtain ⟨n, hn⟩ := List.mem_iff_getElem?.mp h
  have hl : n < M.length := by rw [← m.len]; exact (List.getElem?_eq_some_iff.mp hn).1
  exact (m.cell n a _ hn (List.getElem?_eq_getElem hl)).some
theorem MemIs.out {M : Mem} (m : MemIs K L H M) {p : Addr} (hp : H p = none) : Out L p := by
  refine ⟨fun h => ?_, fun h => ?_⟩
  · obtain ⟨u, e⟩ := m.there h
    rw [hp] at e
    cases e
  · obtain ⟨_, u, e⟩ := m.hid p h
    rw [hp] at e
    cases e
/-- a new thing that is no cell -/
theorem Step.new {M : Mem} (m : MemIs K L H M) {p : Addr} {o : HO} (hp : H p = none) : Step L H L (upd H p o) ∧ Out L p := by
  refine ⟨⟨⟨[], by simp⟩, rfl, fun a h => ?_, fun a u e n => ⟨?_, n⟩⟩, m.out hp⟩
  · obtain ⟨_, u, e⟩ := m.hid a h
    exact upd_ne (ne_of_none e hp)
  · rw [upd_ne (ne_of_none e hp)]
    exact e
theorem MemIs.new {M : Mem} (m : MemIs K L H M) {p : Addr} {o : HO} (hp : H p = none) : MemIs K L (upd H p o) M :=
  ⟨m.len, m.nd, fun n a c e q => (m.cell n a c e q).mono (Step.new m hp).1 (upd_ne (fun (z : a = p) => (m.out hp).1 (z ▸ List.mem_of_getElem? e))),
    fun a h => ⟨(m.hid a h).1, let ⟨u, e⟩ := (m.hid a h).2; ⟨u, (upd_ne (ne_of_none e hp)).trans e⟩⟩⟩
/-- a new cell -/
theorem Step.cell {M : Mem} (m : MemIs K L H M) {p : Addr} {o : HO} (hp : H p = none) : Step L H (L.add p) (upd H p o) := by
  refine ⟨⟨[p], rfl⟩, rfl, fun a h => ?_, fun a u e n => ⟨?_, fun h => ?_, n.2⟩⟩
  · obtain ⟨_, u, e⟩ := m.hid a h
    exact upd_ne (ne_of_none e hp)
  · rw [upd_ne (ne_of_none e hp)]
    exact e
  · rcases List.mem_append.mp h with h | h
    · exact n.1 h
    · have : a = p := by simpa using h
      rw [this, hp] at e
      cases e
theorem MemIs.push {M : Mem} (m : MemIs K L H M) {p : Addr} {o : HO} {c : Cell} (hp : H p = none) (hc : CellIs K (L.add p) (upd H p o) c p) : MemIs K (L.add p) (upd H p o) (M ++ [c]) := by
  have hn : p ∉ L.l := (m.out hp).1
  refine ⟨by simp [Wd.add, m.len], ?_, fun n a c' e q => ?_, fun a h => ⟨fun z => ?_, ?_⟩⟩
  · show (L.l ++ [p]).Nodup
    rw [List.nodup_append]
    exact ⟨m.nd, by simp, fun a ha b hb => by
      have : b = p := by simpa using hb
      subst this
      exact fun z => hn (z ▸ ha)⟩
  · have e : (L.l ++ [p])[n]? = some a := e
    by_cases h : n < L.l.length
    · rw [List.getElem?_append_left h] at e
      rw [List.getElem?_append_left (by rw [← m.len]; exact h)] at q
      exact (m.cell n a c' e q).mono (Step.cell m hp) (upd_ne (fun (z : a = p) => hn (z ▸ List.mem_of_getElem? e)))
    · rw [List.getElem?_append_right (by omega)] at e
      rw [List.getElem?_append_right (by rw [← m.len]; omega)] at q
      have hk : n - L.l.length = 0 := by
        have := (List.getElem?_eq_some_iff.mp e).1
        simp at this
        omega
      rw [hk] at e
      rw [show n - M.length = 0 by rw [← m.len]; exact hk] at q
      simp at e q
      subst e q
      exact hc
  · obtain ⟨h1, u, h2⟩ := m.hid a h
    rcases List.mem_append.mp z with z | z
    · exact h1 z
    · have : a = p := by simpa using z
      rw [this, hp] at h2
      cases h2
  · obtain ⟨h1, u, h2⟩ := m.hid a h
    exact ⟨u, (upd_ne (ne_of_none h2 hp)).trans h2⟩
/-- the cell n changed -/
theorem Step.put {M : Mem} (m : MemIs K L H M) {n : Nat} {a : Addr} {o : HO} (h : L.l[n]? = some a) : Step L H L (upd H a o) :=
  ⟨⟨[], by simp⟩, rfl, fun b hb => upd_ne (fun (z : b = a) => (m.hid b hb).1 (by rw [z]; exact List.mem_of_getElem? h)), fun b u e q => ⟨(upd_ne (fun (z : b = a) => q.1 (by rw [z]; exact List.mem_of_getElem? h))).trans e, q⟩⟩
theorem MemIs.put {M : Mem} (m : MemIs K L H M) {n : Nat} {a : Addr} {o : HO} {c : Cell} (h : L.l[n]? = some a) (hc : CellIs K L (upd H a o) c a) : MemIs K L (upd H a o) (M.set n c) := by
  refine ⟨by rw [m.len, List.length_set], m.nd, fun k b c' e q => ?_, fun b hb => ⟨(m.hid b hb).1, ?_⟩⟩
  · by_cases hk : n = k
    · subst hk
      rw [h] at e
      cases e
      have hlt : n < M.length := by rw [← m.len]; exact (List.getElem?_eq_some_iff.mp h).1
      rw [List.getElem?_set_self hlt] at q
      cases q
      exact hc
    · rw [List.getElem?_set_ne hk] at q
      refine (m.cell k b c' e q).mono (Step.put m h) (upd_ne fun z => hk ?_)
      subst z
      exact nodup_at m.nd h e
  · obtain ⟨u, e⟩ := (m.hid b hb).2
    exact ⟨u, (upd_ne (fun (z : b = a) => (m.hid b hb).1 (by rw [z]; exact List.mem_of_getElem? h))).trans e⟩
/-! ### out of sight and back -/
theorem Mv.hide {p : Addr} {o : HO} (hp : H p = none) : Mv L H (L.hide p) (upd H p o) := ⟨fun _ _ h => h, fun a u e n => ⟨(upd_ne (ne_of_none e hp)).trans e, n.1, fun z => by
  rcases List.mem_cons.mp z with z | z
  · exact ne_of_none e hp z
  · exact n.2 z⟩⟩
theorem Out.show {p a : Addr} (h : Out (L.hide p) a) : Out L a := ⟨h.1, fun z => h.2 (List.mem_cons_of_mem _ z)⟩
theorem Mv.show {p : Addr} : Mv (L.hide p) H L H := ⟨fun _ _ h => h, fun _ _ e n => ⟨e, n.show⟩⟩
theorem Mv.built {p : Addr} {o : HO} : Mv (L.hide p) H (L.hide p) (upd H p o) := ⟨fun _ _ h => h, fun _ _ e n => ⟨(upd_ne (out_ne n)).trans e, n⟩⟩
theorem Step.mvHide (s : Step L H L' H') {p : Addr} (hp : H p = none) : Mv L H (L'.hide p) H' := ⟨s.mv.get, fun a u e n => ⟨(s.keep a u e n).1, (s.keep a u e n).2.1, fun z => by
  rcases List.mem_cons.mp z with z | z
  · exact ne_of_none e hp z
  · exact (s.keep a u e n).2.2 z⟩⟩
theorem MemIs.hide {M : Mem} (m : MemIs K L H M) {p : Addr} {o : HO} (hp : H p = none) : MemIs K (L.hide p) (upd H p o) M := by
  refine ⟨m.len, m.nd, fun n a c e q => (m.cell n a c e q).mv (Mv.hide hp) (let ⟨u, z⟩ := (m.cell n a c e q).some; upd_ne (ne_of_none z hp)), fun a h => ?_⟩
  rcases List.mem_cons.mp h with rfl | h
  · exact ⟨(m.out hp).1, o, upd_same⟩
  · obtain ⟨h1, u, h2⟩ := m.hid a h
    exact ⟨h1, u, (upd_ne (ne_of_none h2 hp)).trans h2⟩
theorem MemIs.show {M : Mem} {p : Addr} (m : MemIs K (L.hide p) H M) : MemIs K L H M :=
  ⟨m.len, m.nd, fun n a c e q => (m.cell n a c e q).mv Mv.show rfl, fun a h => m.hid a (List.mem_cons_of_mem _ h)⟩
theorem MemIs.built {M : Mem} {p : Addr} {o : HO} (m : MemIs K (L.hide p) H M) : MemIs K (L.hide p) (upd H p o) M := by
  refine ⟨m.len, m.nd, fun n a c e q => (m.cell n a c e q).mv Mv.built (upd_ne fun (z : a = p) => (m.hid p List.mem_cons_self).1 (z ▸ List.mem_of_getElem? e)), fun a h => ⟨(m.hid a h).1, ?_⟩⟩
  by_cases z : a = p
  · subst z
    exact ⟨o, upd_same⟩
  · obtain ⟨u, e⟩ := (m.hid a h).2
    exact ⟨u, (upd_ne z).trans e⟩
/-- behind a builder's inner step -/
theorem Step.over (s : Step L H L1 H1) {p : Addr} (hp : H p = none) {L' : Wd} (s' : Step (L1.hide p) H1 L' H') : ∃ L3, L' = L3.hide p ∧ Step L H L3 H' := by
  refine ⟨⟨L'.l, L1.z⟩, ?_, ⟨?_, s.same, fun a h => ?_, fun a u e n => ?_⟩⟩
  · have := s'.same
    cases L'
    simp only [Wd.hide] at this ⊢
    rw [this]
  · obtain ⟨l, e⟩ := s.more
    obtain ⟨m, e'⟩ := s'.more
    exact ⟨l ++ m, by show L'.l = _; rw [e', show (L1.hide p).l = L1.l from rfl, e, List.append_assoc]⟩
  · exact (s'.hid a (List.mem_cons_of_mem _ (by rw [s.same]; exact h))).trans (s.hid a h)
  · have ne := ne_of_none e hp
    obtain ⟨h1, h2⟩ := s.keep a u e n
    obtain ⟨h3, h4⟩ := s'.keep a u h1 ⟨h2.1, fun z => by
      rcases List.mem_cons.mp z with z | z
      · exact ne z
      · exact h2.2 z⟩
    exact ⟨h3, h4.1, fun z => h4.2 (by rw [s'.same]; exact List.mem_cons_of_mem _ z)⟩
/-- the builder changes its thing -/
theorem Step.built (s : Step L H L1 H1) {p : Addr} {o : HO} (np : p ∉ L.z) (hp : H p = none) : Step L H L1 (upd H1 p o) := by
  refine ⟨s.more, s.same, fun a h => ?_, fun a u e n => ?_⟩
  · rw [upd_ne (fun (z : a = p) => np (z ▸ h))]
    exact s.hid a h
  · rw [upd_ne (ne_of_none e hp)]
    exact s.keep a u e n
end
end Ly

namespace Ly
open PySem PySem.Spec PyProof.Rows L2

/-! ### results -/
/-- an exception: a built-in class's name, or an own class's; its fields -/
structure Xc where
  bi : Option String
  c : Str
  fs : List (Str × D)
inductive Res (α : Type) where
  | ok (a : α) (M : Mem) | exc (x : Xc) (M : Mem) | bad
inductive ResS where
  | nx (env : Env) (M : Mem) | rt (d : D) (M : Mem) | bk (env : Env) (M : Mem) | ct (env : Env) (M : Mem) | exc (x : Xc) (M : Mem) | bad
def Res.bind {α β : Type} (r : Res α) (f : α → Mem → Res β) : Res β := match r with
  | .ok a M => f a M
  | .exc x M => .exc x M
  | .bad => .bad
def Res.bindS {α : Type} (r : Res α) (f : α → Mem → ResS) : ResS := match r with
  | .ok a M => f a M
  | .exc x M => .exc x M
  | .bad => .bad
abbrev ME := Env → Mem → Res D
abbrev MT := Env → Mem → Res Bool
abbrev MA := Env → Mem → Res (List D)
abbrev MS := Env → Mem → ResS
abbrev MF := List D → Mem → Res D

def XcIs (K : PySem.W.Frag) (L : Wd) (H : Hp) (x : Xc) (cls : Value) (d : Option Addr) : Prop :=
  (match x.bi with
    | some n => cls = .type n
    | none => cls = .ref (He.ga K x.c)) ∧
  match x.fs with
    | [] => d = none
    | f :: fs => ∃ dd gs, d = some dd ∧ H dd = some (.xd gs) ∧ Out L dd ∧ IsFs K L H (f :: fs) gs
theorem XcIs.step {K : PySem.W.Frag} {L L' : Wd} {H H' : Hp} {x : Xc} {cls : Value} {d : Option Addr} (s : Step L H L' H') (h : XcIs K L H x cls d) : XcIs K L' H' x cls d := by
  refine ⟨h.1, ?_⟩
  have h2 := h.2
  split at h2
  · exact h2
  · obtain ⟨dd, gs, e, q, n, r⟩ := h2
    exact ⟨dd, gs, e, (s.keep _ _ q n).1, (s.keep _ _ q n).2, r.step s⟩

section
variable {α β γ δ : Type}
def Fin (Rl : Wd → Hp → α → β → Prop) (K : PySem.W.Frag) (E : XK) (L : Wd) (H : Hp) (r : Res α) (Q : β → Hp → Prop) : Prop := match r with
  | .ok a M => ∀ L' H' b, Step L H L' H' → MemIs K L' H' M → Rl L' H' a b → Q b H'
  | .exc x M => ∀ L' H' cls d, Step L H L' H' → MemIs K L' H' M → XcIs K L' H' x cls d → E cls d H'
  | .bad => False
def FinS (K : PySem.W.Frag) (E : XK) (L : Wd) (H : Hp) (r : ResS) (N : Ends) : Prop := match r with
  | .nx env M => ∀ L' H' σ', Step L H L' H' → MemIs K L' H' M → EnvIs K L' H' env σ' → N.nx σ' H'
  | .bk env M => ∀ L' H' σ', Step L H L' H' → MemIs K L' H' M → EnvIs K L' H' env σ' → N.bk σ' H'
  | .ct env M => ∀ L' H' σ', Step L H L' H' → MemIs K L' H' M → EnvIs K L' H' env σ' → N.ct σ' H'
  | .rt d M => ∀ L' H' v, Step L H L' H' → MemIs K L' H' M → Is K L' H' d v → N.rt v H'
  | .exc x M => ∀ L' H' cls d, Step L H L' H' → MemIs K L' H' M → XcIs K L' H' x cls d → E cls d H'
  | .bad => False
variable {K : PySem.W.Frag} {E : XK} {L L1 : Wd} {H H1 : Hp} {Rl : Wd → Hp → α → β → Prop} {Rm : Wd → Hp → γ → δ → Prop}
theorem Fin.step {r : Res α} {Q : β → Hp → Prop} (s : Step L H L1 H1) (h : Fin Rl K E L H r Q) : Fin Rl K E L1 H1 r Q := by
  cases r with
  | ok a M => exact fun L' H' b s' m q => h L' H' b (s.trans s') m q
  | exc x M => exact fun L' H' c d s' m q => h L' H' c d (s.trans s') m q
  | bad => exact h
theorem FinS.step {r : ResS} {N : Ends} (s : Step L H L1 H1) (h : FinS K E L H r N) : FinS K E L1 H1 r N := by
  cases r with
  | nx a M => exact fun L' H' b s' m q => h L' H' b (s.trans s') m q
  | bk a M => exact fun L' H' b s' m q => h L' H' b (s.trans s') m q
  | ct a M => exact fun L' H' b s' m q => h L' H' b (s.trans s') m q
  | rt a M => exact fun L' H' b s' m q => h L' H' b (s.trans s') m q
  | exc x M => exact fun L' H' c d s' m q => h L' H' c d (s.trans s') m q
  | bad => exact h
theorem Fin.bind {r : Res α} {f : α → Mem → Res γ} {Q : δ → Hp → Prop} (h : Fin Rm K E L H (r.bind f) Q) :
    Fin Rl K E L H r (fun b H1 => ∃ a M1 L1, Step L H L1 H1 ∧ MemIs K L1 H1 M1 ∧ Rl L1 H1 a b ∧ Fin Rm K E L1 H1 (f a M1) Q) := by
  cases r with
  | ok a M => exact fun L' H' b s m q => ⟨a, M, L', s, m, q, Fin.step s h⟩
  | exc x M => exact h
  | bad => exact h
theorem Fin.bindS {r : Res α} {f : α → Mem → ResS} {N : Ends} (h : FinS K E L H (r.bindS f) N) :
    Fin Rl K E L H r (fun b H1 => ∃ a M1 L1, Step L H L1 H1 ∧ MemIs K L1 H1 M1 ∧ Rl L1 H1 a b ∧ FinS K E L1 H1 (f a M1) N) := by
  cases r with
  | ok a M => exact fun L' H' b s m q => ⟨a, M, L', s, m, q, FinS.step s h⟩
  | exc x M => exact h
  | bad => exact h
theorem Fin.imp {r : Res α} {Q Q' : β → Hp → Prop} (h : Fin Rl K E L H r Q) (hq : ∀ b H', Q b H' → Q' b H') : Fin Rl K E L H r Q' := by
  cases r with
  | ok a M => exact fun L' H' b s m q => hq _ _ (h L' H' b s m q)
  | exc x M => exact h
  | bad => exact h
theorem Fin.end_ {a : α} {M : Mem} {Q : β → Hp → Prop} (h : Fin Rl K E L H (.ok a M) Q) (m : MemIs K L H M) {b : β} (r : Rl L H a b) : Q b H := h L H b Step.refl m r
end

/-! ### readings by functions over data -/
abbrev RB : Wd → Hp → Bool → Bool → Prop := fun _ _ a b => a = b
section
variable (K : PySem.W.Frag) (E : XK)
def tD (m : ME) : TE := fun σ H Q => ∃ env L M, EnvIs K L H env σ ∧ MemIs K L H M ∧ Fin (Is K) K E L H (m env M) Q
def tTD (m : MT) : TT := fun σ H Q => ∃ env L M, EnvIs K L H env σ ∧ MemIs K L H M ∧ Fin RB K E L H (m env M) Q
def tAD (m : MA) : TA := fun σ H Q => ∃ env L M, EnvIs K L H env σ ∧ MemIs K L H M ∧ Fin (IsL K) K E L H (m env M) Q
def sD (m : MS) : TS := fun N σ H => ∃ env L M, EnvIs K L H env σ ∧ MemIs K L H M ∧ FinS K E L H (m env M) N
end
end Ly
namespace L2
open PySem PySem.Spec PyProof.Rows
section
variable {X : Cx}
theorem PE.imp {e : Expr} {t t' : TE} (h : PE X e t) (i : ∀ σ H Q, t' σ H Q → t σ H Q) : PE X e t' := ⟨fun pins s σ H Q I q => h.run pins s σ H Q I (i σ H Q q)⟩
theorem PT.imp {e : Expr} {t t' : TT} (h : PT X e t) (i : ∀ σ H Q, t' σ H Q → t σ H Q) : PT X e t' := ⟨fun pins s σ H Q I q => h.run pins s σ H Q I (i σ H Q q)⟩
theorem PW.imp {e : Expr} {t t' : TT} (h : PW X e t) (i : ∀ σ H Q, t' σ H Q → t σ H Q) : PW X e t' := ⟨fun w pins s σ H Q I q => h.run w pins s σ H Q I (i σ H Q q)⟩
theorem PA.imp {e : List Expr} {t t' : TA} (h : PA X e t) (i : ∀ σ H Q, t' σ H Q → t σ H Q) : PA X e t' := ⟨fun p pins s σ H Q I q => h.run p pins s σ H Q I (i σ H Q q)⟩
theorem PS.imp {e : Stmt} {t t' : TS} (h : PS X e t) (i : ∀ N σ H, t' N σ H → t N σ H) : PS X e t' := ⟨fun pins s σ H N I q => h.run pins s σ H N I (i N σ H q)⟩
theorem PSs.imp {e : List Stmt} {t t' : TS} (h : PSs X e t) (i : ∀ N σ H, t' N σ H → t N σ H) : PSs X e t' := ⟨fun pins s σ H N I q => h.run pins s σ H N I (i N σ H q)⟩
theorem PI.imp {tg e : Expr} {t t' : TI} (h : PI X tg e t) (i : ∀ σ H Q, t' σ H Q → t σ H Q) : PI X tg e t' := ⟨fun pins s σ H Q I q => h.run pins s σ H Q I (i σ H Q q)⟩
theorem PG.imp {e : Expr} {t t' : TG} (h : PG X e t) (i : ∀ v σ H Q, t' v σ H Q → t v σ H Q) : PG X e t' := ⟨fun pins s σ H v u Q I r q => h.run pins s σ H v u Q I r (i v σ H Q q)⟩
end
end L2
namespace Ly
open PySem PySem.Spec PyProof.Rows L2
/-! ### the ground and the context -/
structure Gd where
  P : Program
  w : World
  K : PySem.W.Frag
  mg : Str → Option Value
  base : Heap
def gdOf (X : Cx) : Gd := ⟨X.prog, X.w, X.K, X.mg, X.base⟩
/-- N: the names by slot; sc: the scope; k: the room; E: what is wanted of an exception -/
structure Cq (G : Gd) (k : Nat) (E : XK) (N : List Str) (sc : Scope) (X : Cx) : Prop where
  g : gdOf X = G
  n : X.N = N
  nd : N.Nodup
  scq : X.env.scope = sc
  calm : X.calm = true
  room : Room k X.A
  pass : Passes (L2.CX X.prog X.w) X E
  po : PassesOwn (model X.prog X.w) X.A X.env X.xe
  kd : sc.kind = ScopeKind.function
  gd : X.A.guards = some []

section
variable {G : Gd} {k : Nat} {E : XK} {N : List Str} {sc : Scope} {X : Cx}

/-! ### names, constants -/
def mVar (i : Nat) : ME := fun env M => match env[i]? with
  | some (some d) => .ok d M
  | _ => .bad
def mC (d : D) : ME := fun _ M => .ok d M
theorem ce_var {i : Nat} {x : Str} {pos : Pos} (c : Cq G k E N sc X) (hi : N[i]? = some x) (hv : Vis sc x) (hd : (x == ("__debug__" : Str)) = false := by decide +kernel) (hcd : (x == ("__classdict__" : Str)) = false := by decide +kernel) :
    PE X (.Name x pos) (tD G.K E (mVar i)) := by
  refine (pe_var (i := i) (by rw [c.n]; exact hi) (by rw [c.scq]; exact hv) hd hcd).imp fun σ H Q ⟨env, L, M, he, hm, h⟩ => ?_
  unfold mVar at h
  split at h
  · rename_i d e
    obtain ⟨v, e1, r⟩ := he.at_ i d e
    exact ⟨v, e1, h.end_ hm r⟩
  · exact h.elim
theorem ce_c {e : Expr} {d : D} {v : V} (h : PE X e (tC v)) (r : ∀ L H, Is G.K L H d v) : PE X e (tD G.K E (mC d)) :=
  h.imp fun σ H Q ⟨env, L, M, he, hm, q⟩ => q.end_ hm (r L H)
theorem ce_int {i : Int} {j pos} : PE X (.Constant (.int i) j pos) (tD G.K E (mC (.int i))) := ce_c pe_int fun _ _ => .int i
theorem ce_bl {b : Bool} {j pos} : PE X (.Constant (.bool b) j pos) (tD G.K E (mC (.bl b))) := ce_c pe_bl fun _ _ => .bl b
theorem ce_non {j pos} : PE X (.Constant .none j pos) (tD G.K E (mC .non)) := ce_c pe_non fun _ _ => .non
theorem ce_str {x : Str} {j pos} : PE X (.Constant (.str x) j pos) (tD G.K E (mC (.str x))) := ce_c pe_str fun _ _ => .str x
/-- a global's name as a value -/
theorem ce_glob {x : Str} {d : D} {v : V} {u : Value} {pos : Pos} (c : Cq G k E N sc X) (hg : sc.names.lookup x = some .globalImplicit) (hm : G.mg x = some u) (r : RelV v u) (rd : ∀ L H, Is G.K L H d v) (hd : (x == ("__debug__" : Str)) = false := by decide +kernel) :
    PE X (.Name x pos) (tD G.K E (mC d)) := by
  obtain rfl := c.g
  exact ce_c (pe_glob (show X.env.scope.names.lookup x = _ by rw [c.scq]; exact hg) hm r hd) rd
theorem ce_bltn {x : Str} {d : D} {v : V} {u : Value} {pos : Pos} (c : Cq G k E N sc X) (hg : sc.names.lookup x = some .globalImplicit) (hm : G.mg x = none) (hv : bootBuiltins x = some u) (r : RelV v u) (rd : ∀ L H, Is G.K L H d v)
    (hn : x ≠ "__name__" := by decide +kernel) (hd : (x == ("__debug__" : Str)) = false := by decide +kernel) : PE X (.Name x pos) (tD G.K E (mC d)) := by
  obtain rfl := c.g
  exact ce_c (pe_bltn (show X.env.scope.names.lookup x = _ by rw [c.scq]; exact hg) hm hv r hn hd) rd

/-! ### operators -/
def RS2 (K : PySem.W.Frag) (r : R2) (op : D → D → Mem → Res D) : Prop := ∀ (E : XK) (L : Wd) (H : Hp) (M : Mem) (d e : D) (x y : V) (Q : VK), MemIs K L H M → Is K L H d x → Is K L H e y → Fin (Is K) K E L H (op d e M) Q → r x y H Q
def RS1 (K : PySem.W.Frag) (r : V → Hp → VK → Prop) (op : D → Mem → Res D) : Prop := ∀ (E : XK) (L : Wd) (H : Hp) (M : Mem) (d : D) (x : V) (Q : VK), MemIs K L H M → Is K L H d x → Fin (Is K) K E L H (op d M) Q → r x H Q
def RSC (K : PySem.W.Frag) (r : List V → Hp → VK → Prop) (f : MF) : Prop := ∀ (E : XK) (L : Wd) (H : Hp) (M : Mem) (ds : List D) (xs : List V) (Q : VK), MemIs K L H M → IsL K L H ds xs → Fin (Is K) K E L H (f ds M) Q → r xs H Q
def mBin (op : D → D → Mem → Res D) (ma mb : ME) : ME := fun env M => (ma env M).bind fun d M1 => (mb env M1).bind fun e M2 => op d e M2
def mUn (op : D → Mem → Res D) (ma : ME) : ME := fun env M => (ma env M).bind fun d M1 => op d M1
variable {a b : Expr} {ma mb : ME} {pos : Pos}
theorem op_sim {r : R2} {op : D → D → Mem → Res D} (hr : RS2 G.K r op) {σ : L2.St} {H : Hp} {Q : VK} (h : tD G.K E (mBin op ma mb) σ H Q) : tOp r (tD G.K E ma) (tD G.K E mb) σ H Q := by
  obtain ⟨env, L, M, he, hm, h⟩ := h
  refine ⟨env, L, M, he, hm, Fin.imp (Fin.bind h) fun x H1 ⟨d, M1, L1, s1, m1, r1, h1⟩ => ?_⟩
  refine ⟨env, L1, M1, he.step s1, m1, Fin.imp (Fin.bind h1) fun y H2 ⟨e, M2, L2, s2, m2, r2, h2⟩ => ?_⟩
  exact hr E L2 H2 M2 d e x y Q m2 (r1.step s2) r2 h2
theorem ce_op {o : Operator} {r : R2} {op : D → D → Mem → Res D} (ho : OpR X (binaryOp o) r) (hr : RS2 G.K r op) (ha : PE X a (tD G.K E ma)) (hb : PE X b (tD G.K E mb)) : PE X (.BinOp a o b pos) (tD G.K E (mBin op ma mb)) :=
  (pe_op ho ha hb).imp fun _ _ _ h => op_sim hr h
theorem ce_un {o : UnaryOp} {r : V → Hp → VK → Prop} {op : D → Mem → Res D} (ho : UnR X (unaryOp o) r) (hr : RS1 G.K r op) (ha : PE X a (tD G.K E ma)) : PE X (.UnaryOp o a pos) (tD G.K E (mUn op ma)) := by
  refine (pe_un ho ha).imp fun σ H Q ⟨env, L, M, he, hm, h⟩ => ?_
  refine ⟨env, L, M, he, hm, Fin.imp (Fin.bind h) fun x H1 ⟨d, M1, L1, s1, m1, r1, h1⟩ => ?_⟩
  exact hr E L1 H1 M1 d x Q m1 r1 h1
theorem ce_cmp {o : CmpOp} {r : R2} {op : D → D → Mem → Res D} (ho : OpR X (compareOp o) r) (hr : RS2 G.K r op) (ha : PE X a (tD G.K E ma)) (hb : PE X b (tD G.K E mb)) (hm : behindInMarks o b = false) : PE X (.Compare a [o] [b] pos) (tD G.K E (mBin op ma mb)) :=
  (pe_cmpR ho ha hb hm).imp fun _ _ _ h => op_sim hr h
/-- a value that must be a truth, as a test -/
def asB (r : Res D) : Res Bool := r.bind fun d M => match d with
  | .bl b => .ok b M
  | _ => .bad
def mTest (m : ME) : MT := fun env M => asB (m env M)
theorem test_sim {K : PySem.W.Frag} {L : Wd} {H : Hp} {r : Res D} {Q : Bool → Hp → Prop} (h : Fin RB K E L H (asB r) Q) : Fin (Is K) K E L H r (fun x H' => ∃ k, x = .bl k ∧ Q k H') := by
  refine Fin.imp (Fin.bind h) fun x H1 ⟨d, M1, L1, s1, m1, r1, h1⟩ => ?_
  cases r1 with
  | bl b => exact ⟨b, rfl, h1.end_ m1 rfl⟩
  | _ => exact h1.elim
theorem ct_cmp {o : CmpOp} {r : R2} {op : D → D → Mem → Res D} (ho : OpR X (compareOp o) r) (hr : RS2 G.K r op) (ha : PE X a (tD G.K E ma)) (hb : PE X b (tD G.K E mb)) (hm : behindInMarks o b = false) : PT X (.Compare a [o] [b] pos) (tTD G.K E (mTest (mBin op ma mb))) :=
  (pt_cmpR ho ha hb hm).imp fun _ _ _ ⟨env, L, M, he, hm, h⟩ => op_sim hr ⟨env, L, M, he, hm, test_sim h⟩
theorem ct_val {e : Expr} {m : ME} (h : PE X e (tD G.K E m)) (he : ∀ whole, isTrue e X.env whole = (do let v ← whole; standAt e.pos; holding [v] (truthy v)) := by intro _; rfl) : PT X e (tTD G.K E (mTest m)) :=
  (pt_val h he).imp fun _ _ _ ⟨env, L, M, he, hm, h⟩ => ⟨env, L, M, he, hm, test_sim h⟩
/-! ### and, or, not, if -/
def mAndT (a b : MT) : MT := fun env M => (a env M).bind fun c M1 => if c then b env M1 else .ok false M1
def mOrT (a b : MT) : MT := fun env M => (a env M).bind fun c M1 => if c then .ok true M1 else b env M1
def mNotT (a : MT) : MT := fun env M => (a env M).bind fun c M1 => .ok (!c) M1
variable {ta tb : MT} {rest : List Expr}
theorem cw_one_and (h : PT X a (tTD G.K E ta)) : PW X (.BoolOp .And [a] pos) (tTD G.K E ta) := pw_and1 h
theorem cw_one_or (h : PT X a (tTD G.K E ta)) : PW X (.BoolOp .Or [a] pos) (tTD G.K E ta) := pw_or1 h
theorem and_sim {σ : L2.St} {H : Hp} {Q : Bool → Hp → Prop} (h : tTD G.K E (mAndT ta tb) σ H Q) : tAnd (tTD G.K E ta) (tTD G.K E tb) σ H Q := by
  obtain ⟨env, L, M, he, hm, h⟩ := h
  refine ⟨env, L, M, he, hm, Fin.imp (Fin.bind h) fun x H1 ⟨d, M1, L1, s1, m1, r1, h1⟩ => ?_⟩
  cases r1
  cases x with
  | true =>
    rw [if_pos rfl]
    exact ⟨env, L1, M1, he.step s1, m1, h1⟩
  | false =>
    rw [if_neg Bool.false_ne_true]
    exact h1.end_ m1 rfl
theorem or_sim {σ : L2.St} {H : Hp} {Q : Bool → Hp → Prop} (h : tTD G.K E (mOrT ta tb) σ H Q) : tOr (tTD G.K E ta) (tTD G.K E tb) σ H Q := by
  obtain ⟨env, L, M, he, hm, h⟩ := h
  refine ⟨env, L, M, he, hm, Fin.imp (Fin.bind h) fun x H1 ⟨d, M1, L1, s1, m1, r1, h1⟩ => ?_⟩
  cases r1
  cases x with
  | true =>
    rw [if_pos rfl]
    exact h1.end_ m1 rfl
  | false =>
    rw [if_neg Bool.false_ne_true]
    exact ⟨env, L1, M1, he.step s1, m1, h1⟩
theorem cw_and (ha : PT X a (tTD G.K E ta)) (hb : PW X (.BoolOp .And (b :: rest) pos) (tTD G.K E tb)) : PW X (.BoolOp .And (a :: b :: rest) pos) (tTD G.K E (mAndT ta tb)) :=
  (pw_and ha hb).imp fun _ _ _ h => and_sim h
theorem cw_or (ha : PT X a (tTD G.K E ta)) (hb : PW X (.BoolOp .Or (b :: rest) pos) (tTD G.K E tb)) : PW X (.BoolOp .Or (a :: b :: rest) pos) (tTD G.K E (mOrT ta tb)) :=
  (pw_or ha hb).imp fun _ _ _ h => or_sim h
theorem ct_not (ha : PT X a (tTD G.K E ta)) : PT X (.UnaryOp .Not a pos) (tTD G.K E (mNotT ta)) := by
  refine (pt_not ha).imp fun σ H Q ⟨env, L, M, he, hm, h⟩ => ?_
  refine ⟨env, L, M, he, hm, Fin.imp (Fin.bind h) fun x H1 ⟨d, M1, L1, s1, m1, r1, h1⟩ => ?_⟩
  cases r1
  exact h1.end_ m1 rfl
/-- .. as values: truths -/
def mAndV (a b : ME) : ME := fun env M => (a env M).bind fun c M1 => match c with
  | .bl true => b env M1
  | .bl false => .ok (.bl false) M1
  | _ => .bad
def mOrV (a b : ME) : ME := fun env M => (a env M).bind fun c M1 => match c with
  | .bl true => .ok (.bl true) M1
  | .bl false => b env M1
  | _ => .bad
def mNotV (a : ME) : ME := fun env M => (a env M).bind fun c M1 => match c with
  | .bl b => .ok (.bl (!b)) M1
  | _ => .bad
theorem ce_one {o} (h : PE X a (tD G.K E ma)) : PE X (.BoolOp o [a] pos) (tD G.K E ma) := pe_one h
theorem ce_and (ha : PE X a (tD G.K E ma)) (hb : PE X (.BoolOp .And (b :: rest) pos) (tD G.K E mb)) : PE X (.BoolOp .And (a :: b :: rest) pos) (tD G.K E (mAndV ma mb)) := by
  refine (pe_and ha hb).imp fun σ H Q ⟨env, L, M, he, hm, h⟩ => ?_
  refine ⟨env, L, M, he, hm, Fin.imp (Fin.bind h) fun x H1 ⟨d, M1, L1, s1, m1, r1, h1⟩ => ?_⟩
  cases r1 with
  | bl c =>
    refine ⟨c, rfl, ?_⟩
    cases c with
    | true =>
      rw [if_pos rfl]
      exact ⟨env, L1, M1, he.step s1, m1, h1⟩
    | false =>
      rw [if_neg Bool.false_ne_true]
      exact h1.end_ m1 (.bl false)
  | _ => exact h1.elim
theorem ce_or (ha : PE X a (tD G.K E ma)) (hb : PE X (.BoolOp .Or (b :: rest) pos) (tD G.K E mb)) : PE X (.BoolOp .Or (a :: b :: rest) pos) (tD G.K E (mOrV ma mb)) := by
  refine (pe_or ha hb).imp fun σ H Q ⟨env, L, M, he, hm, h⟩ => ?_
  refine ⟨env, L, M, he, hm, Fin.imp (Fin.bind h) fun x H1 ⟨d, M1, L1, s1, m1, r1, h1⟩ => ?_⟩
  cases r1 with
  | bl c =>
    refine ⟨c, rfl, ?_⟩
    cases c with
    | true =>
      rw [if_pos rfl]
      exact h1.end_ m1 (.bl true)
    | false =>
      rw [if_neg Bool.false_ne_true]
      exact ⟨env, L1, M1, he.step s1, m1, h1⟩
  | _ => exact h1.elim
theorem ce_not (ha : PE X a (tD G.K E ma)) : PE X (.UnaryOp .Not a pos) (tD G.K E (mNotV ma)) := by
  refine (pe_not ha).imp fun σ H Q ⟨env, L, M, he, hm, h⟩ => ?_
  refine ⟨env, L, M, he, hm, Fin.imp (Fin.bind h) fun x H1 ⟨d, M1, L1, s1, m1, r1, h1⟩ => ?_⟩
  cases r1 with
  | bl c => exact ⟨c, rfl, h1.end_ m1 (.bl _)⟩
  | _ => exact h1.elim
def mIf (t : MT) (a b : ME) : ME := fun env M => (t env M).bind fun c M1 => if c then a env M1 else b env M1
theorem ce_if {c : Expr} (hc : PT X c (tTD G.K E ta)) (ha : PE X a (tD G.K E ma)) (hb : PE X b (tD G.K E mb)) : PE X (.IfExp c a b pos) (tD G.K E (mIf ta ma mb)) := by
  refine (pe_ifExp hc ha hb).imp fun σ H Q ⟨env, L, M, he, hm, h⟩ => ?_
  refine ⟨env, L, M, he, hm, Fin.imp (Fin.bind h) fun x H1 ⟨d, M1, L1, s1, m1, r1, h1⟩ => ?_⟩
  cases r1
  cases x with
  | true =>
    rw [if_pos rfl]
    exact ⟨env, L1, M1, he.step s1, m1, h1⟩
  | false =>
    rw [if_neg Bool.false_ne_true]
    exact ⟨env, L1, M1, he.step s1, m1, h1⟩
/-! ### arguments, displays -/
def mNil : MA := fun _ M => .ok [] M
def mCons (a : ME) (r : MA) : MA := fun env M => (a env M).bind fun d M1 => (r env M1).bind fun ds M2 => .ok (d :: ds) M2
variable {es : List Expr} {mr : MA}
theorem ca_nil : PA X [] (tAD G.K E mNil) := pa_nil.imp fun σ H Q ⟨env, L, M, he, hm, h⟩ => h.end_ hm .nil
theorem ca_cons (ha : PE X a (tD G.K E ma)) (hr : PA X es (tAD G.K E mr)) (hs : starEach (a :: es) X.env = (false, eval a X.env) :: starEach es X.env := by rfl) : PA X (a :: es) (tAD G.K E (mCons ma mr)) := by
  refine (pa_cons ha hr hs).imp fun σ H Q ⟨env, L, M, he, hm, h⟩ => ?_
  refine ⟨env, L, M, he, hm, Fin.imp (Fin.bind h) fun x H1 ⟨d, M1, L1, s1, m1, r1, h1⟩ => ?_⟩
  refine ⟨env, L1, M1, he.step s1, m1, Fin.imp (Fin.bind h1) fun y H2 ⟨e, M2, L2, s2, m2, r2, h2⟩ => ?_⟩
  exact h2.end_ m2 (.cons (r1.step s2) r2)
def szOk (n : Nat) : Bool := decide (n ≤ 100000)
theorem szOk.le {n : Nat} (h : szOk n = true) : n ≤ sizeLine := Nat.le_trans (of_decide_eq_true h) (by decide)
theorem szOk.lt {n : Nat} (h : szOk n = true) : n < sizeLine := Nat.lt_of_le_of_lt (of_decide_eq_true h) (by decide)
def mTup (r : MA) : ME := fun env M => (r env M).bind fun ds M1 => if szOk ds.length then .ok (.tup ds) M1 else .bad
def mLst (r : MA) : ME := fun env M => (r env M).bind fun ds M1 => if szOk ds.length then .ok (.lst ds) M1 else .bad
/-- a list that will be changed: a cell -/
def mLstC (r : MA) : ME := fun env M => (r env M).bind fun ds M1 => if szOk ds.length then .ok (.ref M1.length) (M1 ++ [.lst ds]) else .bad
theorem ce_tup {x1} (h : PA X es (tAD G.K E mr)) : PE X (.Tuple es x1 pos) (tD G.K E (mTup mr)) := by
  refine (pe_tup h).imp fun σ H Q ⟨env, L, M, he, hm, h⟩ => ?_
  refine ⟨env, L, M, he, hm, Fin.imp (Fin.bind h) fun x H1 ⟨d, M1, L1, s1, m1, r1, h1⟩ => ?_⟩
  split at h1
  · rename_i hz
    refine ⟨by rw [← r1.length]; exact szOk.le hz, fun p hp => ?_⟩
    have st := Step.new (o := .tup x) m1 hp
    exact h1 L1 _ _ st.1 (m1.new hp) (.tup (.inl upd_same) st.2 (r1.step st.1))
  · exact h1.elim
theorem ce_lst (h : PA X es (tAD G.K E mr)) : PE X (.List es pos) (tD G.K E (mLst mr)) := by
  refine (pe_lst h).imp fun σ H Q ⟨env, L, M, he, hm, h⟩ => ?_
  refine ⟨env, L, M, he, hm, Fin.imp (Fin.bind h) fun x H1 ⟨d, M1, L1, s1, m1, r1, h1⟩ => ?_⟩
  split at h1
  · rename_i hz
    refine ⟨by rw [← r1.length]; exact szOk.le hz, fun p hp => ?_⟩
    have st := Step.new (o := .lst x) m1 hp
    exact h1 L1 _ _ st.1 (m1.new hp) (.lst upd_same st.2 (r1.step st.1))
  · exact h1.elim
theorem ce_lstC (h : PA X es (tAD G.K E mr)) : PE X (.List es pos) (tD G.K E (mLstC mr)) := by
  refine (pe_lst h).imp fun σ H Q ⟨env, L, M, he, hm, h⟩ => ?_
  refine ⟨env, L, M, he, hm, Fin.imp (Fin.bind h) fun x H1 ⟨d, M1, L1, s1, m1, r1, h1⟩ => ?_⟩
  split at h1
  · rename_i hz
    refine ⟨by rw [← r1.length]; exact szOk.le hz, fun p hp => ?_⟩
    have st := Step.cell (o := .lst x) m1 hp
    refine h1 (L1.add p) _ _ st (m1.push hp ⟨x, upd_same, r1.step st⟩) (.ref ?_)
    rw [← m1.len]
    simp [Wd.add]
  · exact h1.elim
end
end Ly

namespace Ly
open PySem PySem.Spec PyProof.Rows L2
section
variable {G : Gd} {k : Nat} {E : XK} {N : List Str} {sc : Scope} {X : Cx} {a b e : Expr} {ma mb : ME} {pos : Pos} {st : Stmt} {rest : List Stmt} {m m' : MS}
/-! ### blocks and small statements -/
def mSeq (a b : MS) : MS := fun env M => match a env M with
  | .nx env' M' => b env' M'
  | r => r
def mNext : MS := fun env M => .nx env M
theorem css_nil : PSs X [] (sD G.K E mNext) := pss_nil.imp fun T σ H ⟨env, L, M, he, hm, h⟩ => h L H σ Step.refl hm he
theorem css_one (h : PS X st (sD G.K E m)) : PSs X [st] (sD G.K E m) := pss_one h
theorem css_cons (h1 : PS X st (sD G.K E m)) (h2 : PSs X rest (sD G.K E m')) : PSs X (st :: rest) (sD G.K E (mSeq m m')) := by
  refine (pss_cons h1 h2).imp fun T σ H ⟨env, L, M, he, hm, h⟩ => ⟨env, L, M, he, hm, ?_⟩
  unfold mSeq at h
  split at h
  · rename_i env' M' q
    rw [q]
    exact fun L' H' σ' s m1 e1 => ⟨env', L', M', e1, m1, h.step s⟩
  · rename_i r q
    revert h
    cases r : m env M with
    | nx env' M' => exact (q env' M' r).elim
    | rt d M' => exact id
    | bk d M' => exact id
    | ct d M' => exact id
    | exc x M' => exact id
    | bad => exact id
def mBreak : MS := fun env M => .bk env M
def mCont : MS := fun env M => .ct env M
theorem cs_pass : PS X (.Pass pos) (sD G.K E mNext) := ps_pass.imp fun T σ H ⟨env, L, M, he, hm, h⟩ => h L H σ Step.refl hm he
theorem cs_break : PS X (.Break pos) (sD G.K E mBreak) := ps_break.imp fun T σ H ⟨env, L, M, he, hm, h⟩ => h L H σ Step.refl hm he
theorem cs_continue : PS X (.Continue pos) (sD G.K E mCont) := ps_continue.imp fun T σ H ⟨env, L, M, he, hm, h⟩ => h L H σ Step.refl hm he
def mDrop (a : ME) : MS := fun env M => (a env M).bindS fun _ M1 => .nx env M1
def mRet (a : ME) : MS := fun env M => (a env M).bindS fun d M1 => .rt d M1
def mRetN : MS := fun _ M => .rt .non M
theorem cs_expr (h : PE X e (tD G.K E ma)) (hs : swapsWith e none pos.line X.env = pure false := by rfl) : PS X (.Expr e pos) (sD G.K E (mDrop ma)) := by
  refine (ps_expr h hs).imp fun T σ H ⟨env, L, M, he, hm, h⟩ => ⟨env, L, M, he, hm, Fin.imp (Fin.bindS h) fun v H1 ⟨d, M1, L1, s1, m1, r1, h1⟩ => ?_⟩
  exact h1 L1 H1 σ Step.refl m1 (he.step s1)
theorem cs_ret (h : PE X e (tD G.K E ma)) : PS X (.Return (some e) pos) (sD G.K E (mRet ma)) := by
  refine (ps_ret h).imp fun T σ H ⟨env, L, M, he, hm, h⟩ => ⟨env, L, M, he, hm, Fin.imp (Fin.bindS h) fun v H1 ⟨d, M1, L1, s1, m1, r1, h1⟩ => ?_⟩
  exact h1 L1 H1 v Step.refl m1 r1
theorem cs_retN : PS X (.Return none pos) (sD G.K E mRetN) := ps_retN.imp fun T σ H ⟨env, L, M, he, hm, h⟩ => h L H .non Step.refl hm .non
def mIfS (t : MT) (a b : MS) : MS := fun env M => (t env M).bindS fun c M1 => if c then a env M1 else b env M1
theorem cs_if {c : Expr} {x y : List Stmt} {t : MT} (hc : PT X c (tTD G.K E t)) (ha : PSs X x (sD G.K E m)) (hb : PSs X y (sD G.K E m')) : PS X (.If c x y pos) (sD G.K E (mIfS t m m')) := by
  refine (ps_if hc ha hb).imp fun T σ H ⟨env, L, M, he, hm, h⟩ => ⟨env, L, M, he, hm, Fin.imp (Fin.bindS h) fun v H1 ⟨d, M1, L1, s1, m1, r1, h1⟩ => ?_⟩
  cases r1
  cases v with
  | true =>
    rw [if_pos rfl]
    exact ⟨env, L1, M1, he.step s1, m1, h1⟩
  | false =>
    rw [if_neg Bool.false_ne_true]
    exact ⟨env, L1, M1, he.step s1, m1, h1⟩
/-! ### targets: what is stored in the slots -/
structure GD where
  f : D → Env → Option Env
  sl : List Nat
/-- no other slots than these are changed -/
structure Chg (sl : List Nat) (σ σ' : L2.St) : Prop where
  len : σ'.length = σ.length
  at_ : ∀ i, i ∉ sl → σ'[i]? = σ[i]?
def gtD (K : PySem.W.Frag) (g : GD) : TG := fun v σ H Q => ∃ env L M d env', EnvIs K L H env σ ∧ MemIs K L H M ∧ Is K L H d v ∧ g.f d env = some env' ∧ ∀ H' σ', Step L H L H' → MemIs K L H' M → EnvIs K L H' env' σ' → Chg g.sl σ σ' → Q σ' H'
def gN (i : Nat) : GD := ⟨fun d env => some (env.set i (some d)), [i]⟩
theorem Chg.set {σ : L2.St} {i : Nat} {v : Option V} : Chg [i] σ (σ.set i v) := ⟨List.length_set, fun j h => List.getElem?_set_ne (fun z => h (by simp [z]))⟩
theorem Chg.trans {sl sl' : List Nat} {σ σ1 σ2 : L2.St} (a : Chg sl σ σ1) (b : Chg sl' σ1 σ2) : Chg (sl ++ sl') σ σ2 :=
  ⟨b.len.trans a.len, fun i h => (b.at_ i fun z => h (List.mem_append_right _ z)).trans (a.at_ i fun z => h (List.mem_append_left _ z))⟩
theorem Chg.refl {σ : L2.St} : Chg [] σ σ := ⟨rfl, fun _ _ => rfl⟩
theorem cg_name {i : Nat} {x : Str} (c : Cq G k E N sc X) (hi : N[i]? = some x) (hx : Loc sc x) (hf : X.fn x = true ∨ sc.names.lookup x = some NameKind.local) : PG X (.Name x pos) (gtD G.K (gN i)) := by
  refine (pg_name (i := i) (by rw [c.n]; exact c.nd) (by rw [c.n]; exact hi) (by rw [c.scq]; exact hx) (by rw [c.scq]; exact hf)).imp fun v σ H Q ⟨env, L, M, d, env', he, hm, r, q, h⟩ => ?_
  cases q
  exact h H _ Step.refl hm (he.set i r) Chg.set
def gTs : List GD → List D → Env → Option Env
  | [], [], env => some env
  | g :: gs, d :: ds, env => (g.f d env).bind fun env' => gTs gs ds env'
  | _, _, _ => none
def slots : List GD → List Nat
  | [] => []
  | g :: gs => g.sl ++ slots gs
def gTf (gs : List GD) (d : D) (env : Env) : Option Env := match d with
  | .tup ds => gTs gs ds env
  | _ => none
def gT (gs : List GD) : GD := ⟨gTf gs, slots gs⟩
def gsD (K : PySem.W.Frag) (gs : List GD) : TGs := fun vs σ H Q => ∃ env L M ds env', EnvIs K L H env σ ∧ MemIs K L H M ∧ IsL K L H ds vs ∧ gTs gs ds env = some env' ∧ ∀ H' σ', Step L H L H' → MemIs K L H' M → EnvIs K L H' env' σ' → Chg (slots gs) σ σ' → Q σ' H'
variable {es : List Expr} {g : GD} {gs : List GD}
theorem cgs_nil : PGs X [] (gsD G.K []) := by
  refine ⟨fun pins s σ H vs us Q I r ⟨env, L, M, ds, env', he, hm, rl, q, h⟩ => pgs_nil.run pins s σ H vs us Q I r ?_⟩
  cases rl with
  | nil =>
    cases q
    exact ⟨rfl, h H σ Step.refl hm he Chg.refl⟩
  | cons _ _ => cases q
theorem cgs_cons (h1 : PG X e (gtD G.K g)) (h2 : PGs X es (gsD G.K gs)) (hs : (assignEach (e :: es) X.env).map (·.2) = assign e X.env :: (assignEach es X.env).map (·.2) := by rfl) : PGs X (e :: es) (gsD G.K (g :: gs)) := by
  refine ⟨fun pins s σ H vs us Q I r ⟨env, L, M, ds, env', he, hm, rl, q, h⟩ => (pgs_cons h1 h2 hs).run pins s σ H vs us Q I r ?_⟩
  cases rl with
  | nil => cases q
  | @cons d v ds vs r1 rs =>
    have q' : (g.f d env).bind (fun env' => gTs gs ds env') = some env' := q
    cases ge : g.f d env with
    | none =>
      rw [ge] at q'
      cases q'
    | some env1 =>
      rw [ge] at q'
      exact ⟨v, vs, rfl, env, L, M, d, env1, he, hm, r1, ge, fun H1 σ' s1 m1 e1 c1 => ⟨env1, L, M, ds, env', e1, m1, rs.step s1, q', fun H2 σ2 s2 m2 e2 c2 => h H2 σ2 (s1.trans s2) m2 e2 (c1.trans c2)⟩⟩
theorem Is.tup_inv {K : PySem.W.Frag} {L : Wd} {H : Hp} {ds : List D} {v : V} (h : Is K L H (.tup ds) v) : ∃ a vs, v = .ref a ∧ SqT K H a vs ∧ IsL K L H ds vs := by
  cases h with
  | tup h n r => exact ⟨_, _, rfl, .inl h, r⟩
  | tupK h r => exact ⟨_, _, rfl, .inr h, r⟩
theorem Is.lst_inv {K : PySem.W.Frag} {L : Wd} {H : Hp} {ds : List D} {v : V} (h : Is K L H (.lst ds) v) : ∃ a vs, v = .ref a ∧ H a = some (.lst vs) ∧ Out L a ∧ IsL K L H ds vs := by
  cases h with
  | lst h n r => exact ⟨_, _, rfl, h, n, r⟩
theorem Is.scr_inv {K : PySem.W.Frag} {L : Wd} {H : Hp} {ds : List D} {v : V} (h : Is K L H (.scr ds) v) : ∃ a vs, v = .ref a ∧ SqL K H a vs ∧ IsL K L H ds vs := by
  cases h with
  | scr h n r => exact ⟨_, _, rfl, .inl h, r⟩
  | scrK h r => exact ⟨_, _, rfl, .inr h, r⟩
theorem cg_tup {kk : Nat} {n : Nat} (c : Cq G k E N sc X) (h : PGs X es (gsD G.K gs)) (hn : (assignEach es X.env).length = n := by rfl) (hl : gs.length = n := by rfl) (hst : (assignEach es X.env).findIdx? (·.1) = none := by rfl) : PG X (.Tuple es kk pos) (gtD G.K (gT gs)) := by
  obtain rfl := c.g
  refine (pg_tup c.calm h hn hst).imp fun v σ H Q ⟨env, L, M, d, env', he, hm, r, q, h⟩ => ?_
  replace q : gTf gs d env = some env' := q
  unfold gTf at q
  split at q
  · rename_i ds
    obtain ⟨a, vs, rfl, hq, rl⟩ := r.tup_inv
    have len : ∀ (gs : List GD) (ds : List D) (env : Env), gTs gs ds env = some env' → ds.length = gs.length := by
      intro gs
      induction gs with
      | nil =>
        intro ds env q
        cases ds with
        | nil => rfl
        | cons _ _ => cases q
      | cons g gs ih =>
        intro ds env q
        cases ds with
        | nil => cases q
        | cons d ds =>
          have q' : (g.f d env).bind (fun env' => gTs gs ds env') = some env' := q
          cases ge : g.f d env with
          | none =>
            rw [ge] at q'
            cases q'
          | some env1 =>
            rw [ge] at q'
            rw [List.length_cons, List.length_cons, ih ds env1 q']
    exact ⟨a, vs, rfl, hq, by rw [← rl.length, len gs ds env q, hl], env, L, M, ds, env', he, hm, rl, q, h⟩
  · cases q
/-- target = value -/
def mAsg (a : ME) (g : GD) : MS := fun env M => (a env M).bindS fun d M1 => match g.f d env with
  | some env' => .nx env' M1
  | none => .bad
theorem asg_sim {σ : L2.St} {H : Hp} {T : Ends} (h : sD G.K E (mAsg ma g) T σ H) : tAsg (tD G.K E ma) (gtD G.K g) T σ H := by
  obtain ⟨env, L, M, he, hm, h⟩ := h
  refine ⟨env, L, M, he, hm, Fin.imp (Fin.bindS h) fun v H1 ⟨d, M1, L1, s1, m1, r1, h1⟩ => ?_⟩
  cases q : g.f d env with
  | none =>
    rw [q] at h1
    exact h1.elim
  | some env' =>
    rw [q] at h1
    exact ⟨env, L1, M1, d, env', he.step s1, m1, r1, q, fun H2 σ' s2 m2 e1 _ => h1 L1 H2 σ' s2 m2 e1⟩
theorem cs_asg {tg : Expr} (h : PE X e (tD G.K E ma)) (hg : PG X tg (gtD G.K g)) (hs : swapsWithSole [tg] e pos.line X.env = pure false := by rfl) (hw : swappedStores [tg] e X.env = pure none := by rfl) (h1 : (assignEach [tg] X.env).map (·.2) = [assign tg X.env] := by rfl) :
    PS X (.Assign [tg] e pos) (sD G.K E (mAsg ma g)) := (ps_asg h hg hs hw h1).imp fun _ _ _ h => asg_sim h
theorem cs_set {i : Nat} {x : Str} {pos' : Pos} (c : Cq G k E N sc X) (hi : N[i]? = some x) (hx : Loc sc x) (hf : X.fn x = true ∨ sc.names.lookup x = some NameKind.local) (h : PE X e (tD G.K E ma)) (hs : swapsWith e (some (.Name x pos')) pos.line X.env = pure false := by rfl) :
    PS X (.Assign [.Name x pos'] e pos) (sD G.K E (mAsg ma (gN i))) := by
  refine (ps_set (i := i) (by rw [c.n]; exact c.nd) (by rw [c.n]; exact hi) (by rw [c.scq]; exact hx) h hs (by rw [c.scq]; exact hf)).imp fun T σ H ⟨env, L, M, he, hm, h⟩ => ?_
  refine ⟨env, L, M, he, hm, Fin.imp (Fin.bindS h) fun v H1 ⟨d, M1, L1, s1, m1, r1, h1⟩ => ?_⟩
  exact h1 L1 H1 _ Step.refl m1 ((he.step s1).set i r1)
/-! ### what is walked -/
structure Itm where
  items : List D
  chk : Mem → Prop
abbrev MI := Env → Mem → Res Itm
def ItIs (K : PySem.W.Frag) (L : Wd) (H : Hp) (t : Itm) (J : It) : Prop := ∀ (L' : Wd) (H' : Hp) (M' : Mem), Mv L H L' H' → MemIs K L' H' M' → t.chk M' →
  ∀ i : Nat, (∀ d, t.items[i]? = some d → J.go i H' ∧ ∀ x H'', J.yld i H' x H'' → Step L' H' L' H'' ∧ MemIs K L' H'' M' ∧ Is K L' H'' d x) ∧ (t.items.length = i → J.stop i H')
def tID (K : PySem.W.Frag) (E : XK) (m : MI) : TI := fun σ H R => ∃ env L M, EnvIs K L H env σ ∧ MemIs K L H M ∧ Fin (ItIs K) K E L H (m env M) R
def ResS.loop (r : ResS) (f : Env → Mem → ResS) : ResS := match r with
  | .nx e1 M1 => f e1 M1
  | .ct e1 M1 => f e1 M1
  | .bk e1 M1 => .nx e1 M1
  | .rt d1 M1 => .rt d1 M1
  | .exc x M1 => .exc x M1
  | .bad => .bad
open Classical in
noncomputable def loopS (g : GD) (mb : MS) (chk : Mem → Prop) : List D → Env → Mem → ResS
  | [], env, M => if chk M then .nx env M else .bad
  | d :: ds, env, M => if chk M then (match g.f d env with
      | some env' => (mb env' M).loop fun e1 M1 => loopS g mb chk ds e1 M1
      | none => .bad) else .bad
noncomputable def mFor (mi : MI) (g : GD) (mb : MS) : MS := fun env M => (mi env M).bindS fun t M1 => loopS g mb t.chk t.items env M1
theorem cs_for {tg iter : Expr} {body : List Stmt} {mi : MI} (c : Cq G k E N sc X) (hi : PI X tg iter (tID G.K E mi)) (hg : PG X tg (gtD G.K g)) (hb : PSs X body (sD G.K E m)) (hs : ∀ x, foldedSetIterable iter X.env x = pure x := by intro _; rfl) :
    PS X (.For tg iter body [] pos) (sD G.K E (mFor mi g m)) := by
  refine (ps_for c.po c.calm hi hg hb hs).imp fun T σ H ⟨env, L, M, he, hm, h⟩ => ?_
  refine ⟨env, L, M, he, hm, Fin.imp (Fin.bindS h) fun J H1 ⟨t, M1, L1, s1, m1, r1, h1⟩ => ?_⟩
  refine ⟨fun i n σ' H' => ∃ env' L' M', n = t.items.length - i ∧ i ≤ t.items.length ∧ Step L1 H1 L' H' ∧ EnvIs G.K L' H' env' σ' ∧ MemIs G.K L' H' M' ∧ FinS G.K E L' H' (loopS g m t.chk (t.items.drop i) env' M') T,
    ⟨_, env, L1, M1, rfl, Nat.zero_le _, Step.refl, he.step s1, m1, h1⟩, ?_⟩
  rintro i n σ' H' ⟨env', L', M', rfl, hi', s2, e2, m2, h2⟩
  by_cases hlt : i < t.items.length
  · rw [List.drop_eq_getElem_cons hlt] at h2
    unfold loopS at h2
    split at h2
    · rename_i hc
      have it := r1 L' H' M' s2.mv m2 hc i
      obtain ⟨go, yl⟩ := it.1 _ (List.getElem?_eq_getElem hlt)
      refine .inr ⟨go, fun σ3 H3 => ∃ env3 L3 M3, Step L1 H1 L3 H3 ∧ EnvIs G.K L3 H3 env3 σ3 ∧ MemIs G.K L3 H3 M3 ∧ FinS G.K E L3 H3 (loopS g m t.chk (t.items.drop (i + 1)) env3 M3) T, fun σ3 H3 ⟨env3, L3, M3, s3, e3, m3, h3⟩ => ⟨_, by omega, env3, L3, M3, rfl, hlt, s3, e3, m3, h3⟩, fun x H3 y => ?_⟩
      obtain ⟨s3, m3, r3⟩ := yl x H3 y
      cases q : g.f t.items[i] env' with
      | none =>
        rw [q] at h2
        exact h2.elim
      | some env3 =>
        rw [q] at h2
        refine ⟨env', L', M', _, env3, e2.step s3, m3, r3, q, fun H4 σ4 s4 m4 e4 _ => ⟨env3, L', M', e4, m4, ?_⟩⟩
        have h2 : FinS G.K E L' H4 ((m env3 M').loop fun e1 M1 => loopS g m t.chk (t.items.drop (i + 1)) e1 M1) T := h2.step (s3.trans s4)
        generalize m env3 M' = r at h2 ⊢
        revert h2
        cases r with
        | nx e5 M5 => exact fun h2 L5 H5 σ5 s5 m5 q5 => ⟨e5, L5, M5, ((s2.trans s3).trans s4).trans s5, q5, m5, FinS.step s5 h2⟩
        | ct e5 M5 => exact fun h2 L5 H5 σ5 s5 m5 q5 => ⟨e5, L5, M5, ((s2.trans s3).trans s4).trans s5, q5, m5, FinS.step s5 h2⟩
        | bk e5 M5 => exact fun h2 => h2
        | rt d5 M5 => exact fun h2 => h2
        | exc d5 M5 => exact fun h2 => h2
        | bad => exact fun h2 => h2
    · exact h2.elim
  · have e : i = t.items.length := by omega
    subst e
    rw [List.drop_length] at h2
    unfold loopS at h2
    split at h2
    · rename_i hc
      exact .inl ⟨(r1 L' H' M' s2.mv m2 hc _).2 rfl, h2 L' H' σ' Step.refl m2 e2⟩
    · exact h2.elim
/-! ### while: with so many turns at most -/
def loopW (t : MT) (b : MS) : Nat → MS
  | 0 => fun _ _ => .bad
  | n + 1 => fun env M => (t env M).bindS fun c M1 => if c then (b env M1).loop fun e1 M1 => loopW t b n e1 M1 else .nx env M1
def mWhile (fuel : Env → Mem → Nat) (t : MT) (b : MS) : MS := fun env M => loopW t b (fuel env M) env M
theorem cs_while {cnd : Expr} {body : List Stmt} {t : MT} (fuel : Env → Mem → Nat) (c : Cq G k E N sc X) (hc : PT X cnd (tTD G.K E t)) (hb : PSs X body (sD G.K E m)) : PS X (.While cnd body [] pos) (sD G.K E (mWhile fuel t m)) := by
  refine (ps_while c.po hc hb).imp fun T σ H ⟨env, L, M, he, hm, h⟩ => ?_
  refine ⟨fun n σ' H' => ∃ env' L' M', EnvIs G.K L' H' env' σ' ∧ MemIs G.K L' H' M' ∧ FinS G.K E L' H' (loopW t m n env' M') T, ⟨fuel env M, env, L, M, he, hm, h⟩, ?_⟩
  rintro n σ' H' ⟨env', L', M', e2, m2, h2⟩
  cases n with
  | zero => exact h2.elim
  | succ n =>
    refine ⟨env', L', M', e2, m2, Fin.imp (Fin.bindS h2) fun v H3 ⟨d, M3, L3, s3, m3, r3, h3⟩ => ?_⟩
    cases r3
    cases v with
    | false =>
      rw [if_neg Bool.false_ne_true]
      exact h3 L3 H3 σ' Step.refl m3 (e2.step s3)
    | true =>
      rw [if_pos rfl]
      refine ⟨fun σ3 H3 => ∃ env3 L3 M3, EnvIs G.K L3 H3 env3 σ3 ∧ MemIs G.K L3 H3 M3 ∧ FinS G.K E L3 H3 (loopW t m n env3 M3) T, fun σ3 H3 z => ⟨n, Nat.lt_succ_self _, z⟩, env', L3, M3, e2.step s3, m3, ?_⟩
      rw [if_pos rfl] at h3
      generalize m env' M3 = r at h3 ⊢
      revert h3
      cases r with
      | nx e5 M5 => exact fun h2 L5 H5 σ5 s5 m5 q5 => ⟨e5, L5, M5, q5, m5, FinS.step s5 h2⟩
      | ct e5 M5 => exact fun h2 L5 H5 σ5 s5 m5 q5 => ⟨e5, L5, M5, q5, m5, FinS.step s5 h2⟩
      | bk e5 M5 => exact fun h2 => h2
      | rt d5 M5 => exact fun h2 => h2
      | exc d5 M5 => exact fun h2 => h2
      | bad => exact fun h2 => h2
end
end Ly

namespace Ly
open PySem PySem.Spec PyProof.Rows L2
/-! ### comprehensions -/
def wipeD (env : Env) : List Nat → Env
  | [] => env
  | v :: vs => (wipeD env vs).set v none
theorem EnvIs.wipe {K : PySem.W.Frag} {L : Wd} {H : Hp} {env : Env} {σ : L2.St} (h : EnvIs K L H env σ) : ∀ vs : List Nat, EnvIs K L H (wipeD env vs) (L2.wipe σ vs)
  | [] => h
  | v :: vs => by
    have ih := EnvIs.wipe h vs
    refine ⟨by unfold wipeD L2.wipe; rw [List.length_set, List.length_set, ih.len], fun j e q => ?_⟩
    unfold wipeD at q
    by_cases hj : v = j
    · subst hj
      have hlt : v < (wipeD env vs).length := by
        have := (List.getElem?_eq_some_iff.mp q).1
        rwa [List.length_set] at this
      rw [List.getElem?_set_self hlt] at q
      cases q
    · rw [List.getElem?_set_ne hj] at q
      obtain ⟨w, a, b⟩ := ih.at_ j e q
      exact ⟨w, by unfold L2.wipe; rw [List.getElem?_set_ne hj]; exact a, b⟩
theorem wipe_at {σ : L2.St} : ∀ (vs : List Nat) (i : Nat), (L2.wipe σ vs)[i]? = if i ∈ vs then (if i < σ.length then some none else none) else σ[i]?
  | [], i => by simp [L2.wipe]
  | v :: vs, i => by
    unfold L2.wipe
    by_cases hj : v = i
    · subst hj
      rw [if_pos List.mem_cons_self]
      by_cases hl : v < σ.length
      · rw [if_pos hl, List.getElem?_set_self (by rw [L2.wipe_length]; exact hl)]
      · rw [if_neg hl]
        exact List.getElem?_eq_none_iff.mpr (by rw [List.length_set, L2.wipe_length]; omega)
    · rw [List.getElem?_set_ne hj, wipe_at vs i]
      have : (i ∈ v :: vs) ↔ i ∈ vs := by
        rw [List.mem_cons]
        exact ⟨fun z => z.elim (fun z => absurd z.symm hj) id, Or.inr⟩
      simp only [this]
theorem wipe_chg {σ σ' : L2.St} {sl vs : List Nat} (c : Chg sl (L2.wipe σ vs) σ') (hs : ∀ i ∈ sl, i ∈ vs) : L2.wipe σ' vs = L2.wipe σ vs := by
  refine List.ext_getElem? fun i => ?_
  rw [wipe_at, wipe_at]
  by_cases h : i ∈ vs
  · rw [if_pos h, if_pos h, c.len, L2.wipe_length]
  · rw [if_neg h, if_neg h, c.at_ i (fun z => h (hs i z)), wipe_at, if_neg h]
section
variable {G : Gd} {k : Nat} {E : XK} {N : List Str} {sc : Scope} {X : Cx} {a b e : Expr} {ma mb : ME} {pos : Pos}
theorem cq_blk {scope : Scope} (c : Cq G k E N sc X) (hk : scope.kind = ScopeKind.function) (s : Shared) (H : Hp) (C : Addr) (cl : List (Str × Addr)) (fp : List Addr) : Cq G k E0 N (relS scope sc) (X.blk s H scope (compEnvC scope cl C X.env) fp) := by
  obtain rfl := c.g
  refine ⟨rfl, c.n, c.nd, ?_, c.calm, c.room, passL, PassesOwn.never, hk, c.gd⟩
  rw [← c.scq]
  rfl
/-- exceptions within a comprehension are not carried -/
def noX {α : Type} (r : Res α) : Res α := match r with
  | .exc _ _ => .bad
  | r => r
theorem Fin.noX {α β : Type} {Rl : Wd → Hp → α → β → Prop} {K : PySem.W.Frag} {L : Wd} {H : Hp} {r : Res α} {Q : β → Hp → Prop} (h : Fin Rl K E L H (Ly.noX r) Q) : Fin Rl K E0 L H r Q := by
  cases r with
  | ok a M => exact h
  | exc x M => exact h.elim
  | bad => exact h
open Classical in
noncomputable def compL (g : GD) (t : MT) (el : ME) (chk : Mem → Prop) (env : Env) : List D → List D → Mem → Res (List D)
  | [], acc, M => if chk M then .ok acc M else .bad
  | d :: ds, acc, M => if chk M then (match g.f d env with
      | some env' => (noX (t env' M)).bind fun c M1 => if c then (noX (el env' M1)).bind fun y M2 => if szOk (acc.length + 1) then compL g t el chk env ds (acc ++ [y]) M2 else .bad else compL g t el chk env ds acc M1
      | none => .bad) else .bad
noncomputable def mLc (mi : MI) (g : GD) (t : MT) (el : ME) (vs : List Nat) : ME := fun env M => (mi env M).bind fun it M1 => (compL g t el it.chk (wipeD env vs) it.items [] M1).bind fun ds M2 => .ok (.lst ds) M2
def mYes : MT := fun _ M => .ok true M
theorem cts_nil : PTs X [] (tTD G.K E mYes) := ⟨fun pins s σ H Q I ⟨env, L, M, he, hm, h⟩ => pts_nil.run pins s σ H Q I (h.end_ hm rfl)⟩
theorem cts_one {t : MT} (h : PT X e (tTD G.K E t)) : PTs X [e] (tTD G.K E t) := pts_one h
theorem Fin.bind' {α β γ δ : Type} {K : PySem.W.Frag} {L : Wd} {H : Hp} {Rm : Wd → Hp → γ → δ → Prop} {r : Res α} {f : α → Mem → Res γ} {Q : δ → Hp → Prop} (h : Fin Rm K E L H ((Ly.noX r).bind f) Q) : ∃ a M, r = .ok a M ∧ Fin Rm K E L H (f a M) Q := by
  cases r with
  | ok a M => exact ⟨a, M, rfl, h⟩
  | exc x M => exact h.elim
  | bad => exact h.elim
theorem lc_sim {mi : MI} {g : GD} {t : MT} {el : ME} {vs : List Nat} (hsl : ∀ i ∈ g.sl, i ∈ vs) {σ : L2.St} {H : Hp} {Q : VK} (h : tD G.K E (mLc mi g t el vs) σ H Q) :
    tLc (tID G.K E mi) (gtD G.K g) (tTD G.K E0 t) (tD G.K E0 el) vs σ H Q := by
  obtain ⟨env, L, M, he, hm, h⟩ := h
  refine ⟨env, L, M, he, hm, Fin.imp (Fin.bind h) fun J H1 ⟨it, M1, L1, s1, m1, r1, h1⟩ p hp => ?_⟩
  have e1 := he.step s1
  have op := m1.out hp
  refine ⟨fun i n H' => ∃ L' M' acc avs, n = it.items.length - i ∧ i ≤ it.items.length ∧ Step L1 H1 L' H' ∧ MemIs G.K (L'.hide p) H' M' ∧ H' p = some (.lst avs) ∧ IsL G.K (L'.hide p) H' acc avs ∧
      Fin (Is G.K) G.K E L1 H1 ((compL g t el it.chk (wipeD env vs) (it.items.drop i) acc M').bind fun ds M2 => .ok (.lst ds) M2) Q,
    ⟨_, L1, M1, [], [], rfl, Nat.zero_le _, (Step.new m1 hp).1, m1.hide hp, upd_same, .nil, h1⟩, ?_⟩
  rintro i n H2 ⟨L2, M2, acc, avs, rfl, hi', s2, m2, q2, a2, h2⟩
  have mv2 : Mv L1 H1 (L2.hide p) H2 := s2.mvHide hp
  by_cases hlt : i < it.items.length
  · rw [List.drop_eq_getElem_cons hlt] at h2
    unfold compL at h2
    split at h2
    · rename_i hc
      have itx := r1 (L2.hide p) H2 M2 mv2 m2 hc i
      obtain ⟨go, yl⟩ := itx.1 _ (List.getElem?_eq_getElem hlt)
      refine .inr ⟨go, fun H3 => ∃ L' M' acc avs, Step L1 H1 L' H3 ∧ MemIs G.K (L'.hide p) H3 M' ∧ H3 p = some (.lst avs) ∧ IsL G.K (L'.hide p) H3 acc avs ∧
        Fin (Is G.K) G.K E L1 H1 ((compL g t el it.chk (wipeD env vs) (it.items.drop (i + 1)) acc M').bind fun ds M2 => .ok (.lst ds) M2) Q, fun H3 ⟨L', M', acc, avs, x1, x2, x3, x4, x5⟩ => ⟨_, by omega, L', M', acc, avs, rfl, hlt, x1, x2, x3, x4, x5⟩, fun x H3 y => ?_⟩
      obtain ⟨s3, m3, r3⟩ := yl x H3 y
      cases q : g.f it.items[i] (wipeD env vs) with
      | none =>
        rw [q] at h2
        exact h2.elim
      | some env3 =>
        rw [q] at h2
        refine ⟨wipeD env vs, L2.hide p, M2, _, env3, ((e1.mv mv2).step s3).wipe vs, m3, r3, q, fun H4 σ4 s4 m4 e4 c4 => ⟨wipe_chg c4 hsl, env3, L2.hide p, M2, e4, m4, ?_⟩⟩
        replace s3 := s3.trans s4
        replace h2 : Fin (Is G.K) G.K E L1 H1 (((noX (t env3 M2)).bind fun c M1 => if c then (noX (el env3 M1)).bind fun y M2 => if szOk (acc.length + 1) then compL g t el it.chk (wipeD env vs) (it.items.drop (i + 1)) (acc ++ [y]) M2 else .bad else compL g t el it.chk (wipeD env vs) (it.items.drop (i + 1)) acc M1).bind fun ds M2 => .ok (.lst ds) M2) Q := h2
        obtain ⟨s23, e23, s23'⟩ := s2.over hp s3
        cases ht : t env3 M2 with
        | bad =>
          rw [ht] at h2
          exact h2.elim
        | exc x M =>
          rw [ht] at h2
          exact h2.elim
        | ok c M4 =>
          rw [ht] at h2
          intro L5 H5 b5 s5 m5 r5
          cases r5
          obtain ⟨L5', rfl, s15⟩ := s2.over hp (s3.trans s5)
          have q5 : H5 p = some (.lst avs) := ((s3.trans s5).hid p List.mem_cons_self).trans q2
          have a5 := a2.step (s3.trans s5)
          cases c with
          | false =>
            rw [if_neg Bool.false_ne_true]
            exact ⟨L5', M4, acc, avs, s15, m5, q5, a5, h2⟩
          | true =>
            rw [if_pos rfl]
            refine ⟨env3, L5'.hide p, M4, e4.step s5, m5, ?_⟩
            replace h2 : Fin (Is G.K) G.K E L1 H1 (((noX (el env3 M4)).bind fun y M2 => if szOk (acc.length + 1) then compL g t el it.chk (wipeD env vs) (it.items.drop (i + 1)) (acc ++ [y]) M2 else .bad).bind fun ds M2 => .ok (.lst ds) M2) Q := h2
            cases hy : el env3 M4 with
            | bad =>
              rw [hy] at h2
              exact h2.elim
            | exc x M =>
              rw [hy] at h2
              exact h2.elim
            | ok yd M6 =>
              rw [hy] at h2
              intro L7 H7 yv s7 m7 r7
              obtain ⟨L7', rfl, s17⟩ := s2.over hp ((s3.trans s5).trans s7)
              have q7 : H7 p = some (.lst avs) := (((s3.trans s5).trans s7).hid p List.mem_cons_self).trans q2
              have a7 := a2.step ((s3.trans s5).trans s7)
              replace h2 : Fin (Is G.K) G.K E L1 H1 ((if szOk (acc.length + 1) then compL g t el it.chk (wipeD env vs) (it.items.drop (i + 1)) (acc ++ [yd]) M6 else .bad).bind fun ds M2 => .ok (.lst ds) M2) Q := h2
              split at h2
              · rename_i hz
                refine ⟨avs, q7, ?_, L7', M6, acc ++ [yd], avs ++ [yv], s17.built op.2 hp, m7.built, upd_same, (a7.append (.cons r7 .nil)).mv Mv.built, h2⟩
                have := szOk.le hz
                rw [a7.length] at this
                omega
              · exact h2.elim
    · exact h2.elim
  · have e : i = it.items.length := by omega
    subst e
    rw [List.drop_length] at h2
    unfold compL at h2
    split at h2
    · rename_i hc
      refine .inl ⟨(r1 (L2.hide p) H2 M2 mv2 m2 hc _).2 rfl, h2 L2 H2 _ s2 m2.show (.lst q2 ⟨(m2.hid p List.mem_cons_self).1, ?_⟩ (a2.mv Mv.show))⟩
      rw [s2.same]
      exact op.2
    · exact h2.elim
/-- [el for tg in iter if ..] -/
theorem ce_lc {elt tg iter : Expr} {ifs : List Expr} {scope : Scope} {own : List (Str × Nat)} {mi : MI} {g : GD} {t : MT} {el : ME} (c : Cq G k E N sc X) (hi : PI X tg iter (tID G.K E mi)) (ok : blkC N sc scope own = true) (hk : scope.kind = ScopeKind.function)
    (hg : ∀ Y, Cq G k E0 N (relS scope sc) Y → Y.fn = (fun x => scope.names.lookup x == some .cell) → PG Y tg (gtD G.K g)) (ht : ∀ Y, Cq G k E0 N (relS scope sc) Y → PTs Y ifs (tTD G.K E0 t)) (he : ∀ Y, Cq G k E0 N (relS scope sc) Y → PE Y elt (tD G.K E0 el))
    (hsl : ∀ i ∈ g.sl, i ∈ own.map (·.2)) (hs : ∀ x, foldedSetIterable iter X.env x = pure x := by intro _; rfl) : PE X (.ListComp elt [⟨tg, iter, ifs, 0⟩] scope pos) (tD G.K E (mLc mi g t el (own.map (·.2)))) :=
  (pe_lc (own := own) c.calm (by rw [c.n]; exact c.nd) hi (by rw [c.n, c.scq]; exact blkOk_by ok) (fun s H C cl fp => hg _ (cq_blk c hk s H C cl fp) rfl) (fun s H C cl fp => ht _ (cq_blk c hk s H C cl fp)) (fun s H C cl fp => he _ (cq_blk c hk s H C cl fp)) hs).imp fun σ H Q h => lc_sim hsl h
theorem cs_setLc {i : Nat} {y : Str} {py spos : Pos} {elt tg iter : Expr} {ifs : List Expr} {scope : Scope} {own : List (Str × Nat)} {mi : MI} {g : GD} {t : MT} {el : ME} (c : Cq G k E N sc X) (hy : N[i]? = some y) (hyl : sc.names.lookup y = some NameKind.local)
    (hsw : swapsWith (.ListComp elt [⟨tg, iter, ifs, 0⟩] scope pos) (some (.Name y py)) spos.line X.env = pure true) (hi : PI X tg iter (tID G.K E mi)) (ok : blkC N sc scope own = true) (hk : scope.kind = ScopeKind.function)
    (hg : ∀ Y, Cq G k E0 N (relS scope sc) Y → Y.fn = (fun x => scope.names.lookup x == some .cell) → PG Y tg (gtD G.K g)) (ht : ∀ Y, Cq G k E0 N (relS scope sc) Y → PTs Y ifs (tTD G.K E0 t)) (he : ∀ Y, Cq G k E0 N (relS scope sc) Y → PE Y elt (tD G.K E0 el))
    (hsl : ∀ i ∈ g.sl, i ∈ own.map (·.2)) (hs : ∀ x, foldedSetIterable iter X.env x = pure x := by intro _; rfl) : PS X (.Assign [.Name y py] (.ListComp elt [⟨tg, iter, ifs, 0⟩] scope pos) spos) (sD G.K E (mAsg (mLc mi g t el (own.map (·.2))) (gN i))) := by
  refine (ps_setLc (i := i) (own := own) c.calm (by rw [c.n]; exact c.nd) (by rw [c.n]; exact hy) (by rw [c.scq]; exact hyl) hsw hi (by rw [c.n, c.scq]; exact blkOk_by ok) (fun s H C cl fp => hg _ (cq_blk c hk s H C cl fp) rfl) (fun s H C cl fp => ht _ (cq_blk c hk s H C cl fp)) (fun s H C cl fp => he _ (cq_blk c hk s H C cl fp)) hs).imp fun T σ H ⟨env, L, M, he, hm, h⟩ => ?_
  refine lc_sim (G := G) (E := E) hsl ⟨env, L, M, he, hm, Fin.imp (Fin.bindS h) fun v H1 ⟨d, M1, L1, s1, m1, r1, h1⟩ => ?_⟩
  exact h1 L1 H1 _ Step.refl m1 ((he.step s1).set i r1)
end
end Ly

namespace Ly
open PySem PySem.Spec PyProof.Rows L2
/-! ### data that names cells below k alone; a def's own cells are laid down at its end -/
mutual
def D.low (k : Nat) : D → Bool
  | .tup ds => lowL k ds
  | .lst ds => lowL k ds
  | .scr ds => lowL k ds
  | .dic kvs => lowK k kvs
  | .obj _ fs => lowF k fs
  | .ref n => decide (n < k)
  | _ => true
def lowL (k : Nat) : List D → Bool
  | [] => true
  | d :: ds => D.low k d && lowL k ds
def lowK (k : Nat) : List (Key × D) → Bool
  | [] => true
  | d :: ds => D.low k d.2 && lowK k ds
def lowF (k : Nat) : List (Str × D) → Bool
  | [] => true
  | d :: ds => D.low k d.2 && lowF k ds
end
def Cell.low (k : Nat) : Cell → Bool
  | .lst ds => lowL k ds
  | .dic kvs => lowK k kvs
  | .obj _ fs => lowF k fs
section
variable {K : PySem.W.Frag} {L L' : Wd} {H H' : Hp}
theorem and_l {a b : Bool} (h : (a && b) = true) : a = true := (Bool.and_eq_true_iff.mp h).1
theorem and_r {a b : Bool} (h : (a && b) = true) : b = true := (Bool.and_eq_true_iff.mp h).2
mutual
theorem Is.low : ∀ {d : D} {v : V}, Is K L H d v → d.low L.l.length = true
  | _, _, .non => rfl
  | _, _, .bl b => rfl
  | _, _, .int i => rfl
  | _, _, .str x => rfl
  | _, _, .ty n => rfl
  | _, _, .adr a => rfl
  | _, _, .tup h n r => by unfold D.low; exact IsL.low r
  | _, _, .tupK h r => by unfold D.low; exact IsL.low r
  | _, _, .lst h n r => by unfold D.low; exact IsL.low r
  | _, _, .scr h n r => by unfold D.low; exact IsL.low r
  | _, _, .scrK h r => by unfold D.low; exact IsL.low r
  | _, _, .dic h n r => by unfold D.low; exact IsKV.low r
  | _, _, .obj h n r => by unfold D.low; exact IsFs.low r
  | _, _, .ref h => by unfold D.low; exact decide_eq_true (List.getElem?_eq_some_iff.mp h).1
theorem IsL.low : ∀ {ds : List D} {vs : List V}, IsL K L H ds vs → lowL L.l.length ds = true
  | _, _, .nil => rfl
  | _, _, .cons a b => by unfold lowL; rw [Is.low a, IsL.low b]; rfl
theorem IsKV.low : ∀ {ds : List (Key × D)} {vs : List (Key × V)}, IsKV K L H ds vs → lowK L.l.length ds = true
  | _, _, .nil => rfl
  | _, _, .cons a b => by unfold lowK; rw [Is.low a, IsKV.low b]; rfl
theorem IsFs.low : ∀ {ds : List (Str × D)} {vs : List (Str × V)}, IsFs K L H ds vs → lowF L.l.length ds = true
  | _, _, .nil => rfl
  | _, _, .cons a b => by unfold lowF; rw [Is.low a, IsFs.low b]; rfl
end
theorem CellIs.low {c : Cell} {a : Addr} (h : CellIs K L H c a) : c.low L.l.length = true := by
  cases c with
  | lst ds => exact let ⟨_, _, r⟩ := h; r.low
  | dic kvs => exact let ⟨_, _, r⟩ := h; r.low
  | obj c fs => exact let ⟨_, _, _, r⟩ := h; r.low
theorem Out.less {l : List Addr} (e : L'.l = L.l ++ l) (z : L'.z = L.z) {a : Addr} (h : Out L' a) : Out L a := ⟨fun q => h.1 (by rw [e]; exact List.mem_append_left _ q), fun q => h.2 (by rw [z]; exact q)⟩
mutual
theorem Is.less {l : List Addr} (e : L'.l = L.l ++ l) (z : L'.z = L.z) : ∀ {d : D} {v : V}, Is K L' H d v → d.low L.l.length = true → Is K L H d v
  | _, _, .non, _ => .non
  | _, _, .bl b, _ => .bl b
  | _, _, .int i, _ => .int i
  | _, _, .str x, _ => .str x
  | _, _, .ty n, _ => .ty n
  | _, _, .adr a, _ => .adr a
  | _, _, .tup h n r, w => .tup h (n.less e z) (IsL.less e z r (by unfold D.low at w; exact w))
  | _, _, .tupK h r, w => .tupK h (IsL.less e z r (by unfold D.low at w; exact w))
  | _, _, .lst h n r, w => .lst h (n.less e z) (IsL.less e z r (by unfold D.low at w; exact w))
  | _, _, .scr h n r, w => .scr h (n.less e z) (IsL.less e z r (by unfold D.low at w; exact w))
  | _, _, .scrK h r, w => .scrK h (IsL.less e z r (by unfold D.low at w; exact w))
  | _, _, .dic h n r, w => .dic h (n.less e z) (IsKV.less e z r (by unfold D.low at w; exact w))
  | _, _, .obj h n r, w => .obj h (n.less e z) (IsFs.less e z r (by unfold D.low at w; exact w))
  | _, _, .ref h, w => .ref (by
      unfold D.low at w
      rw [e, List.getElem?_append_left (of_decide_eq_true w)] at h
      exact h)
theorem IsL.less {l : List Addr} (e : L'.l = L.l ++ l) (z : L'.z = L.z) : ∀ {ds : List D} {vs : List V}, IsL K L' H ds vs → lowL L.l.length ds = true → IsL K L H ds vs
  | _, _, .nil, _ => .nil
  | _, _, .cons a b, w => .cons (Is.less e z a (by unfold lowL at w; exact and_l w)) (IsL.less e z b (by unfold lowL at w; exact and_r w))
theorem IsKV.less {l : List Addr} (e : L'.l = L.l ++ l) (z : L'.z = L.z) : ∀ {ds : List (Key × D)} {vs : List (Key × V)}, IsKV K L' H ds vs → lowK L.l.length ds = true → IsKV K L H ds vs
  | _, _, .nil, _ => .nil
  | _, _, .cons a b, w => .cons (Is.less e z a (by unfold lowK at w; exact and_l w)) (IsKV.less e z b (by unfold lowK at w; exact and_r w))
theorem IsFs.less {l : List Addr} (e : L'.l = L.l ++ l) (z : L'.z = L.z) : ∀ {ds : List (Str × D)} {vs : List (Str × V)}, IsFs K L' H ds vs → lowF L.l.length ds = true → IsFs K L H ds vs
  | _, _, .nil, _ => .nil
  | _, _, .cons a b, w => .cons (Is.less e z a (by unfold lowF at w; exact and_l w)) (IsFs.less e z b (by unfold lowF at w; exact and_r w))
end
theorem CellIs.less {l : List Addr} (e : L'.l = L.l ++ l) (z : L'.z = L.z) {c : Cell} {a : Addr} (h : CellIs K L' H c a) (w : c.low L.l.length = true) : CellIs K L H c a := by
  cases c with
  | lst ds => exact let ⟨vs, q, r⟩ := h; ⟨vs, q, r.less e z w⟩
  | dic kvs => exact let ⟨vs, q, r⟩ := h; ⟨vs, q, r.less e z w⟩
  | obj c fs => exact let ⟨dx, vs, q, r⟩ := h; ⟨dx, vs, q, r.less e z w⟩
end
def frL (f : D → Option D) : List D → Option (List D)
  | [] => some []
  | d :: ds => (f d).bind fun a => (frL f ds).map fun b => a :: b
def frK (f : D → Option D) : List (Key × D) → Option (List (Key × D))
  | [] => some []
  | d :: ds => (f d.2).bind fun a => (frK f ds).map fun b => (d.1, a) :: b
def frF (f : D → Option D) : List (Str × D) → Option (List (Str × D))
  | [] => some []
  | d :: ds => (f d.2).bind fun a => (frF f ds).map fun b => (d.1, a) :: b
def frzC (f : D → Option D) : Cell → Option D
  | .lst ds => (frL f ds).map .lst
  | .dic kvs => (frK f kvs).map .dic
  | .obj c fs => (frF f fs).map (.obj c)
def frzD (k : Nat) (M : Mem) : Nat → D → Option D
  | 0, d => if d.low k then some d else none
  | n + 1, d => if d.low k then some d else match d with
    | .tup ds => (frL (frzD k M n) ds).map .tup
    | .lst ds => (frL (frzD k M n) ds).map .lst
    | .dic kvs => (frK (frzD k M n) kvs).map .dic
    | .obj c fs => (frF (frzD k M n) fs).map (.obj c)
    | .ref i => (M[i]?).bind (frzC (frzD k M n))
    | _ => none
section
variable {K : PySem.W.Frag} {L L' : Wd} {H H' : Hp}
theorem frL_ok {f : D → Option D} (hf : ∀ d d' v, Is K L' H d v → f d = some d' → Is K L H d' v) : ∀ {ds ds' : List D} {vs : List V}, IsL K L' H ds vs → frL f ds = some ds' → IsL K L H ds' vs
  | _, _, _, .nil, h => by cases h; exact .nil
  | d :: ds, _, _, .cons a b, h => by
    have h : ((f d).bind fun a => (frL f ds).map fun b => a :: b) = some _ := h
    obtain ⟨x, hx, h⟩ := Option.bind_eq_some_iff.mp h
    obtain ⟨y, hy, h⟩ := Option.map_eq_some_iff.mp h
    subst h
    exact .cons (hf _ _ _ a hx) (frL_ok hf b hy)
theorem frK_ok {f : D → Option D} (hf : ∀ d d' v, Is K L' H d v → f d = some d' → Is K L H d' v) : ∀ {ds ds' : List (Key × D)} {vs : List (Key × V)}, IsKV K L' H ds vs → frK f ds = some ds' → IsKV K L H ds' vs
  | _, _, _, .nil, h => by cases h; exact .nil
  | (k, d) :: ds, _, _, .cons a b, h => by
    have h : ((f d).bind fun a => (frK f ds).map fun b => (k, a) :: b) = some _ := h
    obtain ⟨x, hx, h⟩ := Option.bind_eq_some_iff.mp h
    obtain ⟨y, hy, h⟩ := Option.map_eq_some_iff.mp h
    subst h
    exact .cons (hf _ _ _ a hx) (frK_ok hf b hy)
theorem frF_ok {f : D → Option D} (hf : ∀ d d' v, Is K L' H d v → f d = some d' → Is K L H d' v) : ∀ {ds ds' : List (Str × D)} {vs : List (Str × V)}, IsFs K L' H ds vs → frF f ds = some ds' → IsFs K L H ds' vs
  | _, _, _, .nil, h => by cases h; exact .nil
  | (k, d) :: ds, _, _, .cons a b, h => by
    have h : ((f d).bind fun a => (frF f ds).map fun b => (k, a) :: b) = some _ := h
    obtain ⟨x, hx, h⟩ := Option.bind_eq_some_iff.mp h
    obtain ⟨y, hy, h⟩ := Option.map_eq_some_iff.mp h
    subst h
    exact .cons (hf _ _ _ a hx) (frF_ok hf b hy)
theorem frzD_ok {l : List Addr} (e : L'.l = L.l ++ l) (z : L'.z = L.z) {M : Mem} (m : MemIs K L' H M) : ∀ (n : Nat) (d d' : D) (v : V), Is K L' H d v → frzD L.l.length M n d = some d' → Is K L H d' v := by
  intro n
  induction n with
  | zero =>
    intro d d' v r h
    unfold frzD at h
    split at h
    · rename_i w
      cases h
      exact r.less e z w
    · cases h
  | succ n ih =>
    intro d d' v r h
    unfold frzD at h
    split at h
    · rename_i w
      cases h
      exact r.less e z w
    · rename_i w
      split at h
      · obtain ⟨ds', h1, rfl⟩ := Option.map_eq_some_iff.mp h
        cases r with
        | tup a b c => exact .tup a (b.less e z) (frL_ok ih c h1)
        | tupK a c => exact .tupK a (frL_ok ih c h1)
      · obtain ⟨ds', h1, rfl⟩ := Option.map_eq_some_iff.mp h
        cases r with
        | lst a b c => exact .lst a (b.less e z) (frL_ok ih c h1)
      · obtain ⟨ds', h1, rfl⟩ := Option.map_eq_some_iff.mp h
        cases r with
        | dic a b c => exact .dic a (b.less e z) (frK_ok ih c h1)
      · obtain ⟨ds', h1, rfl⟩ := Option.map_eq_some_iff.mp h
        cases r with
        | obj a b c => exact .obj a (b.less e z) (frF_ok ih c h1)
      · rename_i i
        obtain ⟨c, h1, h2⟩ := Option.bind_eq_some_iff.mp h
        cases r with
        | @ref _ ad q =>
          have w' : ¬ i < L.l.length := by
            unfold D.low at w
            simpa using w
          have out : Out L ad := ⟨fun y => by
            obtain ⟨j, hj⟩ := List.mem_iff_getElem?.mp y
            have hl := (List.getElem?_eq_some_iff.mp hj).1
            have : L'.l[j]? = some ad := by rw [e, List.getElem?_append_left hl]; exact hj
            have := nodup_at m.nd this q
            omega, fun y => (m.hid _ (by rw [z]; exact y)).1 (List.mem_of_getElem? q)⟩
          have cc := m.cell i _ c q h1
          cases c with
          | lst ds =>
            obtain ⟨vs, x, r⟩ := cc
            obtain ⟨ds', h3, rfl⟩ := Option.map_eq_some_iff.mp h2
            exact .lst x out (frL_ok ih r h3)
          | dic ds =>
            obtain ⟨vs, x, r⟩ := cc
            obtain ⟨ds', h3, rfl⟩ := Option.map_eq_some_iff.mp h2
            exact .dic x out (frK_ok ih r h3)
          | obj c fs =>
            obtain ⟨dx, vs, x, r⟩ := cc
            obtain ⟨ds', h3, rfl⟩ := Option.map_eq_some_iff.mp h2
            exact .obj x out (frF_ok ih r h3)
      · cases h
end
/-- a cell as it was, or one that names no newer ones -/
def Laid (M M' : Mem) : Prop := ∀ i : Nat, i < M.length → M'[i]? = M[i]? ∨ ∃ c, M'[i]? = some c ∧ c.low M.length = true
open Classical in
noncomputable def finish (M : Mem) (d : D) (M' : Mem) : Res D := if Laid M M' then (match frzD M.length M' 20 d with
  | some d' => .ok d' (M'.take M.length)
  | none => .bad) else .bad
open Classical in
noncomputable def finishX (M : Mem) (x : Xc) (M' : Mem) : Res D := if Laid M M' then (match frF (frzD M.length M' 20) x.fs with
  | some fs => .exc ⟨x.bi, x.c, fs⟩ (M'.take M.length)
  | none => .bad) else .bad
def startD (n : Nat) (ds : List D) : Env := ds.map some ++ List.replicate (n - ds.length) none
/-- a def: its own cells are laid down at the end | they stay -/
noncomputable def callD (n : Nat) (m : MS) : MF := fun ds M => match m (startD n ds) M with
  | .rt d M' => finish M d M'
  | .nx _ M' => finish M .non M'
  | .exc x M' => finishX M x M'
  | _ => .bad
def callK (n : Nat) (m : MS) : MF := fun ds M => match m (startD n ds) M with
  | .rt d M' => .ok d M'
  | .nx _ M' => .ok .non M'
  | .exc x M' => .exc x M'
  | _ => .bad
section
variable {K : PySem.W.Frag} {E : XK} {L L' : Wd} {H H' : Hp} {M M' : Mem}
theorem laid_ok (m : MemIs K L H M) (s : Step L H L' H') (m' : MemIs K L' H' M') (h : Laid M M') : Step L H L H' ∧ MemIs K L H' (M'.take M.length) := by
  obtain ⟨l, e⟩ := s.more
  have hlen : M.length ≤ M'.length := by
    rw [← m.len, ← m'.len, e, List.length_append]
    omega
  refine ⟨⟨⟨[], by simp⟩, rfl, s.hid, fun a o q n => ⟨(s.keep a o q n).1, n⟩⟩, ⟨?_, m.nd, fun n a c e1 e2 => ?_, fun a q => ?_⟩⟩
  · rw [List.length_take, Nat.min_eq_left hlen, m.len]
  · have hn : n < L.l.length := (List.getElem?_eq_some_iff.mp e1).1
    have e2' : M'[n]? = some c := by
      rw [List.getElem?_take_of_lt (by rw [← m.len]; exact hn)] at e2
      exact e2
    have e1' : L'.l[n]? = some a := by rw [e, List.getElem?_append_left hn]; exact e1
    have lw : c.low L.l.length = true := by
      rcases h n (by rw [← m.len]; exact hn) with q | ⟨c', q, w⟩
      · rw [e2'] at q
        exact (m.cell n a c e1 q.symm).low
      · rw [e2'] at q
        cases q
        rw [m.len]
        exact w
    exact (m'.cell n a c e1' e2').less e s.same lw
  · obtain ⟨h1, o, h2⟩ := m.hid a q
    exact ⟨h1, o, (s.hid a q).trans h2⟩
theorem finish_sim (m : MemIs K L H M) {d : D} {Q : VK} (h : Fin (Is K) K E L H (finish M d M') Q) : ∀ L' H' v, Step L H L' H' → MemIs K L' H' M' → Is K L' H' d v → Q v H' := by
  intro L' H' v s m' r
  unfold finish at h
  split at h
  · rename_i hl
    obtain ⟨s2, m2⟩ := laid_ok m s m' hl
    split at h
    · rename_i d' q
      obtain ⟨l, e⟩ := s.more
      rw [← m.len] at q
      exact h L H' v s2 m2 (frzD_ok e s.same m' 20 d d' v r q)
    · exact h.elim
  · exact h.elim
theorem finishX_sim (m : MemIs K L H M) {x : Xc} {Q : VK} (h : Fin (Is K) K E L H (finishX M x M') Q) : ∀ L' H' cls d, Step L H L' H' → MemIs K L' H' M' → XcIs K L' H' x cls d → E cls d H' := by
  intro L' H' cls d s m' r
  unfold finishX at h
  split at h
  · rename_i hl
    obtain ⟨s2, m2⟩ := laid_ok m s m' hl
    split at h
    · rename_i fs q
      obtain ⟨l, e⟩ := s.more
      rw [← m.len] at q
      refine h L H' cls d s2 m2 ⟨r.1, ?_⟩
      have r2 := r.2
      obtain ⟨bi, c, fs0⟩ := x
      cases fs0 with
      | nil =>
        cases q
        exact r2
      | cons f fs0 =>
        obtain ⟨dd, gs, e1, e2, n, rf⟩ := r2
        have q' := frF_ok (frzD_ok e s.same m' 20) rf q
        cases fs with
        | nil =>
          cases q'
          cases rf
        | cons f' fs' => exact ⟨dd, gs, e1, e2, n.less e s.same, q'⟩
    · exact h.elim
  · exact h.elim
theorem start_is {N : List Str} {ds : List D} {vs : List V} (r : IsL K L H ds vs) : EnvIs K L H (startD N.length ds) (L2.start N vs) := by
  refine ⟨by unfold startD L2.start; simp [r.length], fun i d e => ?_⟩
  unfold startD at e
  by_cases hi : i < ds.length
  · rw [List.getElem?_append_left (by simpa using hi), List.getElem?_map] at e
    obtain ⟨d', e1, e2⟩ := Option.map_eq_some_iff.mp e
    cases e2
    obtain ⟨v, q, r'⟩ := r.get e1
    refine ⟨v, ?_, r'⟩
    unfold L2.start
    rw [List.getElem?_append_left (by rw [List.length_map, ← r.length]; exact hi), List.getElem?_map, q]
    rfl
  · rw [List.getElem?_append_right (by simpa using hi)] at e
    rw [List.getElem?_replicate] at e
    split at e <;> cases e
theorem callD_sim {N : List Str} {mb : MS} {ds : List D} {Q : VK} (m : MemIs K L H M) (h : Fin (Is K) K E L H (callD N.length mb ds M) Q) : FinS K E L H (mb (startD N.length ds) M) { nx := fun _ H' => Q .non H', rt := Q } := by
  unfold callD at h
  split at h
  · rename_i d M' q
    rw [q]
    exact finish_sim m h
  · rename_i env M' q
    rw [q]
    exact fun L' H' σ' s m' _ => finish_sim m h L' H' .non s m' .non
  · rename_i x M' q
    rw [q]
    exact finishX_sim m h
  · exact h.elim
theorem callK_sim {N : List Str} {mb : MS} {ds : List D} {Q : VK} (m : MemIs K L H M) (h : Fin (Is K) K E L H (callK N.length mb ds M) Q) : FinS K E L H (mb (startD N.length ds) M) { nx := fun _ H' => Q .non H', rt := Q } := by
  unfold callK at h
  split at h
  · rename_i d M' q
    rw [q]
    exact h
  · rename_i env M' q
    rw [q]
    exact fun L' H' σ' s m' _ => h L' H' .non s m' .non
  · rename_i x M' q
    rw [q]
    exact h
  · exact h.elim
end
/-! ### promises; a def is called where no repr is under way (guards) -/
def spD (K : PySem.W.Frag) (n : Nat) (f : MF) : Sp := fun vs H Q E => ∃ ds L M, vs.length = n ∧ IsL K L H ds vs ∧ MemIs K L H M ∧ Fin (Is K) K E L H (f ds M) Q
/-- the def at f keeps sp, called where no guard stands -/
def FnG (G : Gd) (k : Nat) (f : Addr) (fd : FuncData) (ps : List Str) (sp : Sp) : Prop :=
  ∀ (A : Around) (outer : List PySem.Env) (s : Shared) (H : Hp) (args : Args) (us : List Value) (vs : List V) (Q : VK) (E : XK), Room k A → A.guards = some [] → Env0 G.P G.w G.K G.mg G.base A outer s H →
    BindsTo s fd args (ps.zip us) → Vals vs us → vs.length = ps.length → sp vs H Q E → codeAny (model G.P G.w) A (.call (.ref f) args) (CR (L2.CX G.P G.w) outer G.P G.w H s Q E) s
structure Cal (G : Gd) (k : Nat) (x : Str) (ps : List Str) (f : MF) : Prop where
  ex : ∃ fd, FnG G k (He.ga G.K x) fd ps (spD G.K ps.length f) ∧ Binds G.K fd ps []
  kp : PySem.W.keepIn G.K (.ref (He.ga G.K x)) = true
  gl : G.mg x = some (.ref (He.ga G.K x))
theorem cq_def {G : Gd} {N : List Str} {qual : Str} {scope : Scope} {f : Addr} {cdv : Value} {A : Around} {outer : List PySem.Env} {s : Shared} {H : Hp} {E : XK} {k : Nat}
    (hr : Room k (A.deeper (envOfC qual scope s.heap.objs.size f cdv))) (hg : A.guards = some []) (nd : N.Nodup) (hk : scope.kind = ScopeKind.function) : Cq G k E N scope (cxOf (L2.CX G.P G.w) G.P G.w G.K G.mg G.base N qual scope f cdv A outer s H E) := by
  have tk : Takes (cxOf (L2.CX G.P G.w) G.P G.w G.K G.mg G.base N qual scope f cdv A outer s H E) (fun cls d _ H => E cls d H) := takes_of rfl rfl rfl rfl
  exact ⟨rfl, rfl, nd, rfl, rfl, hr, passes_call tk fun _ _ _ _ h => h, passes_of rfl, hk, hg⟩
section
variable {G : Gd} {k j : Nat} {E : XK} {N ps : List Str} {sc : Scope} {X : Cx} {a b e : Expr} {es : List Expr} {ma mb : ME} {mr : MA} {pos p : Pos} {x : Str} {f : MF}
/-- a def by its body -/
theorem fn_body {qual : Str} {params : Arguments} {body : List Stmt} {dvs : List V} {kws : List (Str × V)} {fa : Addr} {fd : FuncData} {sp : Sp} (F : FunD G.K x qual params body sc dvs kws fa fd) (S : FnScope N ps sc)
    (hb : ∀ (X : Cx) (vs : List V) (H : Hp) (Q : VK) (E : XK), Cq G k E N sc X → X.fn = (fun _ => true) → sp vs H Q E → ∃ t, PSs X body t ∧ t { nx := fun _ H' => Q .non H', rt := Q } (L2.start N vs) H) : FnG G (k + 1) fa fd ps sp := by
  obtain ⟨_, _, _, _, _, _, _, cdv, _, _, rfl, look, code, _, _⟩ := F.ex
  intro A outer s H args us vs Q E room guards env0 binds rel len promise
  have here : G.K.In s.heap := PySem.W.Frag.In.keeps env0.mod.kin fun b o q => (env0.bs b o q).1
  have calm : s.heap.NoLimit := Heap.NoLimit.keeps env0.mod.nolimit fun b o q => (env0.bs b o q).1
  refine codeAny_call_function room.depth (here _ _ look) rfl S.co S.gen rfl (PySem.W.codeRec_of here code) (binds _ _ _ _ (wpAny_newFunctionEnv_cells S.kind (fun y hy => ?_) fun env same s1 inC => ?_))
  · exact (S.par y.1 (List.of_mem_zip (show (y.1, y.2) ∈ ps.zip us from hy)).1).elim .inl fun q => .inr ⟨q, PySem.W.cellsFrom_some _ _ _ (.inl q)⟩
  · subst same
    obtain ⟨t, body, want⟩ := hb _ vs H Q E (cq_def (outer := outer) (H := H) (E := E) (room.deeper _) guards S.nd S.kind) rfl promise
    refine ⟨calm.keeps inC.toInCall.keep, codeAny_func (wpAny_mono (body.run [] s1 _ H _ (inv_start S room.hd env0 len rel inC) want) ?_ fun _ _ z => z)⟩
    intro flow s2 out
    cases flow with
    | ret u => exact let ⟨v, _, H2, J, rv, q⟩ := out; ⟨v, H2, J.os, J.bare, J.base, J.hok, rv, q⟩
    | next => exact let ⟨_, H2, J, q⟩ := out; ⟨V.non, H2, J.os, J.bare, J.base, J.hok, rfl, q⟩
    | brk => exact let ⟨_, _, _, q⟩ := out; q.elim
    | cont => exact let ⟨_, _, _, q⟩ := out; q.elim
theorem fn_okD {qual : Str} {params : Arguments} {body : List Stmt} {dvs : List V} {kws : List (Str × V)} {fa : Addr} {fd : FuncData} {m : MS} (F : FunD G.K x qual params body sc dvs kws fa fd) (S : FnScope N ps sc)
    (hb : ∀ (X : Cx) (E : XK), Cq G k E N sc X → X.fn = (fun _ => true) → PSs X body (sD G.K E m)) : FnG G (k + 1) fa fd ps (spD G.K ps.length (callD N.length m)) :=
  fn_body F S fun X vs H Q E c hf ⟨ds, L, M, hl, r, hm, h⟩ => ⟨_, hb X E c hf, startD N.length ds, L, M, start_is r, hm, callD_sim hm h⟩
theorem fn_okK {qual : Str} {params : Arguments} {body : List Stmt} {dvs : List V} {kws : List (Str × V)} {fa : Addr} {fd : FuncData} {m : MS} (F : FunD G.K x qual params body sc dvs kws fa fd) (S : FnScope N ps sc)
    (hb : ∀ (X : Cx) (E : XK), Cq G k E N sc X → X.fn = (fun _ => true) → PSs X body (sD G.K E m)) : FnG G (k + 1) fa fd ps (spD G.K ps.length (callK N.length m)) :=
  fn_body F S fun X vs H Q E c hf ⟨ds, L, M, hl, r, hm, h⟩ => ⟨_, hb X E c hf, startD N.length ds, L, M, start_is r, hm, callK_sim hm h⟩
/-- the callee runs -/
theorem run_g {fa : Addr} {fd : FuncData} {sp : Sp} (F : FnG (gdOf X) j fa fd ps sp) (room : Room j X.A) (guards : X.A.guards = some []) (B : Binds X.K fd ps []) (pass : Passes (L2.CX X.prog X.w) X E) {pins : List (Addr × Obj)} {σ : L2.St} {H : Hp} {s : Shared} {Q : VK} {us : List Value} {vs : List V}
    (I : Inv X pins σ H s) (rel : Vals vs us) (len : vs.length = ps.length) (h : sp vs H Q E) : wpAny (model X.prog X.w) X.A (call (.ref fa) us) (EP X pins σ Q) X.xe s := by
  have bind := B s us I.kIn (by rw [List.append_nil, ← rel.length]; exact len)
  rw [List.append_nil] at bind
  refine wpAny_call (codeAny_mono (F X.A X.stack s H ⟨us, []⟩ us vs Q E room guards I.env0 bind rel len h) fun r s2 out => ?_)
  cases r with
  | error x => exact pass pins σ H s x s2 I out
  | ok flow =>
    cases flow with
    | ret u => exact I.after out
    | _ => exact False.elim out
def mCall (n : Nat) (f : MF) (mr : MA) : ME := fun env M => (mr env M).bind fun ds M1 => if ds.length = n then f ds M1 else .bad
theorem ce_call (C : Cal G j x ps f) (hj : j ≤ k) (c : Cq G k E N sc X) (hg : sc.names.lookup x = some .globalImplicit) (ha : PA X (e :: es) (tAD G.K E mr)) (hdb : (x == ("__debug__" : Str)) = false := by decide +kernel)
    (first : starEach (e :: es) X.env = (false, eval e X.env) :: starEach es X.env := by rfl) (plain : (backTo pos (starEach es X.env)).any (·.1) = false := by rfl) : PE X (.Call (.Name x p) (e :: es) [] pos) (tD G.K E (mCall ps.length f mr)) := by
  obtain rfl := c.g
  obtain ⟨fd, F, B⟩ := C.ex
  refine ⟨fun pins s σ H Q I ⟨env, L, M, he, hm, h⟩ => wpAny_Call_Name_kw (ld_glob I (show X.env.scope.names.lookup x = _ by rw [c.scq]; exact hg) C.gl (PySem.W.callWith_K (h₀ := X.base) I.ok.mod.kin C.kp ?_ first plain) hdb)⟩
  refine thn (ha.run pos pins s σ H _ I ⟨env, L, M, he, hm, Fin.bind h⟩) fun us s1 ⟨vs, H1, I1, r, ds, M1, L1, s1', m1, r1, h1⟩ => ⟨I1.kIn, ?_⟩
  split at h1
  · rename_i hl
    have hv : vs.length = ps.length := by rw [← r1.length]; exact hl
    exact run_g F (c.room.mono hj) c.gd B c.pass I1 r hv ⟨ds, L1, M1, hv, r1, m1, h1⟩
  · exact h1.elim
theorem ce_call0 (C : Cal G j x [] f) (hj : j ≤ k) (c : Cq G k E N sc X) (hg : sc.names.lookup x = some .globalImplicit) (hdb : (x == ("__debug__" : Str)) = false := by decide +kernel) : PE X (.Call (.Name x p) [] [] pos) (tD G.K E (mCall 0 f mNil)) := by
  obtain rfl := c.g
  obtain ⟨fd, F, B⟩ := C.ex
  refine ⟨fun pins s σ H Q I ⟨env, L, M, he, hm, h⟩ => wpAny_Call_Name_kw (ld_glob I (show X.env.scope.names.lookup x = _ by rw [c.scq]; exact hg) C.gl ?_ hdb)⟩
  exact PySem.W.callWith_K0 I.kIn C.kp (run_g (us := []) F (c.room.mono hj) c.gd B c.pass I .nil rfl ⟨[], L, M, rfl, .nil, hm, h⟩)
/-! ### built-ins by name -/
def mCB (f : MF) (mr : MA) : ME := fun env M => (mr env M).bind fun ds M1 => f ds M1
theorem cb_sim {r : List V → Hp → VK → Prop} (hr : RSC G.K r f) {σ : L2.St} {H : Hp} {Q : VK} (h : tD G.K E (mCB f mr) σ H Q) : tCB r (tAD G.K E mr) σ H Q := by
  obtain ⟨env, L, M, he, hm, h⟩ := h
  refine ⟨env, L, M, he, hm, Fin.imp (Fin.bind h) fun vs H1 ⟨ds, M1, L1, s1, m1, r1, h1⟩ => ?_⟩
  exact hr E L1 H1 M1 ds vs Q m1 r1 h1
theorem ce_callB {id : String} {r : List V → Hp → VK → Prop} (hc : CallR X (.builtin id) r) (hr : RSC G.K r f) (c : Cq G k E N sc X) (hg : sc.names.lookup x = some .globalImplicit) (hm : G.mg x = none) (hv : bootBuiltins x = some (.builtin id)) (ha : PA X (e :: es) (tAD G.K E mr))
    (hn : x ≠ "__name__" := by decide +kernel) (hdb : (x == ("__debug__" : Str)) = false := by decide +kernel) (he : starEach (e :: es) X.env = (false, eval e X.env) :: starEach es X.env := by rfl) (hpl : (backTo pos (starEach es X.env)).any (·.1) = false := by rfl) :
    PE X (.Call (.Name x p) (e :: es) [] pos) (tD G.K E (mCB f mr)) := by
  obtain rfl := c.g
  exact (pe_callB hc (show X.env.scope.names.lookup x = _ by rw [c.scq]; exact hg) hm hv ha hn hdb he hpl).imp fun _ _ _ h => cb_sim hr h
theorem ce_callT {T : String} {r : List V → Hp → VK → Prop} (hc : CallR X (.type T) r) (hr : RSC G.K r f) (c : Cq G k E N sc X) (hg : sc.names.lookup x = some .globalImplicit) (hm : G.mg x = none) (hv : bootBuiltins x = some (.type T)) (ha : PA X (e :: es) (tAD G.K E mr))
    (hn : x ≠ "__name__" := by decide +kernel) (hdb : (x == ("__debug__" : Str)) = false := by decide +kernel) (he : starEach (e :: es) X.env = (false, eval e X.env) :: starEach es X.env := by rfl) (hpl : (backTo pos (starEach es X.env)).any (·.1) = false := by rfl) :
    PE X (.Call (.Name x p) (e :: es) [] pos) (tD G.K E (mCB f mr)) := by
  obtain rfl := c.g
  exact (pe_callTy hc (show X.env.scope.names.lookup x = _ by rw [c.scq]; exact hg) hm hv ha hn hdb he hpl).imp fun _ _ _ h => cb_sim hr h
end
end Ly

namespace Ly
open PySem PySem.Spec PyProof.Rows L2
/-! ### sequences -/
def lstOf (d : D) (M : Mem) : Option (List D) := match d with
  | .lst ds => some ds
  | .scr ds => some ds
  | .ref n => (match M[n]? with
    | some (.lst ds) => some ds
    | _ => none)
  | _ => none
/-- a list that H tracks -/
def lstM (d : D) (M : Mem) : Option (List D) := match d with
  | .lst ds => some ds
  | .ref n => (match M[n]? with
    | some (.lst ds) => some ds
    | _ => none)
  | _ => none
def seqOf (d : D) (M : Mem) : Option (List D) := match d with
  | .tup ds => some ds
  | d => lstOf d M
def dicOf (d : D) (M : Mem) : Option (List (Key × D)) := match d with
  | .dic kvs => some kvs
  | .ref n => (match M[n]? with
    | some (.dic kvs) => some kvs
    | _ => none)
  | _ => none
section
variable {K : PySem.W.Frag} {L : Wd} {H : Hp} {M : Mem} {d : D} {v : V} {ds : List D}
theorem ref_inv {n : Nat} (h : Is K L H (.ref n) v) : ∃ a, v = .ref a ∧ L.l[n]? = some a := by
  cases h with
  | ref h => exact ⟨_, rfl, h⟩
theorem lstM_ok (m : MemIs K L H M) (r : Is K L H d v) (h : lstM d M = some ds) : ∃ a vs, v = .ref a ∧ H a = some (.lst vs) ∧ IsL K L H ds vs := by
  unfold lstM at h
  split at h
  · cases h
    obtain ⟨a, vs, e, q, _, r⟩ := r.lst_inv
    exact ⟨a, vs, e, q, r⟩
  · rename_i n
    split at h
    · rename_i ds' q
      cases h
      obtain ⟨a, e, q'⟩ := ref_inv r
      obtain ⟨vs, q2, r2⟩ := m.cell n a _ q' q
      exact ⟨a, vs, e, q2, r2⟩
    · cases h
  · cases h
theorem lstOf_ok (m : MemIs K L H M) (r : Is K L H d v) (h : lstOf d M = some ds) : ∃ a vs, v = .ref a ∧ SqL K H a vs ∧ IsL K L H ds vs := by
  unfold lstOf at h
  split at h
  · cases h
    obtain ⟨a, vs, e, q, _, r⟩ := r.lst_inv
    exact ⟨a, vs, e, .inl (.inl q), r⟩
  · cases h
    exact r.scr_inv
  · rename_i n
    split at h
    · rename_i ds' q
      cases h
      obtain ⟨a, e, q'⟩ := ref_inv r
      obtain ⟨vs, q2, r2⟩ := m.cell n a _ q' q
      exact ⟨a, vs, e, .inl (.inl q2), r2⟩
    · cases h
  · cases h
theorem seqOf_ok (m : MemIs K L H M) (r : Is K L H d v) (h : seqOf d M = some ds) : ∃ a vs, v = .ref a ∧ (SqL K H a vs ∨ SqT K H a vs) ∧ IsL K L H ds vs := by
  unfold seqOf at h
  split at h
  · cases h
    obtain ⟨a, vs, e, q, r⟩ := r.tup_inv
    exact ⟨a, vs, e, .inr q, r⟩
  · obtain ⟨a, vs, e, q, r⟩ := lstOf_ok m r h
    exact ⟨a, vs, e, .inl q, r⟩
theorem dicOf_ok {kvs : List (Key × D)} (m : MemIs K L H M) (r : Is K L H d v) (h : dicOf d M = some kvs) : ∃ a kws, v = .ref a ∧ H a = some (.dK kws) ∧ IsKV K L H kvs kws := by
  unfold dicOf at h
  split at h
  · cases h
    cases r with
    | dic q n r => exact ⟨_, _, rfl, q, r⟩
  · rename_i n
    split at h
    · rename_i ds' q
      cases h
      obtain ⟨a, e, q'⟩ := ref_inv r
      obtain ⟨vs, q2, r2⟩ := m.cell n a _ q' q
      exact ⟨a, vs, e, q2, r2⟩
    · cases h
  · cases h
/-- a new list, a new tuple -/
theorem new_lst {E : XK} {Q : VK} (m : MemIs K L H M) {vs : List V} (r : IsL K L H ds vs) (h : Fin (Is K) K E L H (.ok (.lst ds) M) Q) : ∀ p, H p = none → Q (.ref p) (upd H p (.lst vs)) := fun p hp => by
  have st := Step.new (o := .lst vs) m hp
  exact h L _ _ st.1 (m.new hp) (.lst upd_same st.2 (r.step st.1))
theorem new_tup {E : XK} {Q : VK} (m : MemIs K L H M) {vs : List V} (r : IsL K L H ds vs) (h : Fin (Is K) K E L H (.ok (.tup ds) M) Q) : ∀ p, H p = none → Q (.ref p) (upd H p (.tup vs)) := fun p hp => by
  have st := Step.new (o := .tup vs) m hp
  exact h L _ _ st.1 (m.new hp) (.tup (.inl upd_same) st.2 (r.step st.1))
theorem new_lstC {E : XK} {Q : VK} (m : MemIs K L H M) {vs : List V} (r : IsL K L H ds vs) (h : Fin (Is K) K E L H (.ok (.ref M.length) (M ++ [.lst ds])) Q) : ∀ p, H p = none → Q (.ref p) (upd H p (.lst vs)) := fun p hp => by
  have st := Step.cell (o := .lst vs) m hp
  refine h (L.add p) _ _ st (m.push hp ⟨vs, upd_same, r.step st⟩) (.ref ?_)
  rw [← m.len]
  simp [Wd.add]
end
/-! ### operators -/
def opAdd (d e : D) (M : Mem) : Res D := match d, e with
  | .int i, .int j => .ok (.int (i + j)) M
  | .str x, .str y => if szOk (x.length + y.length) then .ok (.str (x ++ y)) M else .bad
  | .tup ds, .tup es => if szOk (ds.length + es.length) then .ok (.tup (ds ++ es)) M else .bad
  | d, e => (match lstM d M, lstM e M with
    | some ds, some es => if szOk (ds.length + es.length) then .ok (.lst (ds ++ es)) M else .bad
    | _, _ => .bad)
def rAddA (K : PySem.W.Frag) : R2 := fun x y H Q => ((rI0 fun i j => .int (i + j)) x y H Q ∨ (∃ i j, x = .str i ∧ y = .str j ∧ i.length + j.length ≤ sizeLine ∧ Q (.str (i ++ j)) H)) ∨ (rCatA K x y H Q ∨ rCat x y H Q)
theorem op_addA {X : Cx} : OpR X (binaryOp .Add) (rAddA X.K) := (op_add.or op_add_str).or (op_catA.or op_cat)
theorem rs_add {K : PySem.W.Frag} : RS2 K (rAddA K) opAdd := by
  intro E L H M d e x y Q m rd re h
  unfold opAdd at h
  split at h
  · cases rd; cases re
    exact .inl (.inl ⟨_, _, rfl, rfl, h.end_ m (.int _)⟩)
  · split at h
    · rename_i hz
      cases rd; cases re
      exact .inl (.inr ⟨_, _, rfl, rfl, szOk.le hz, h.end_ m (.str _)⟩)
    · exact h.elim
  · split at h
    · rename_i ds es hz
      obtain ⟨a, vs, rfl, q1, r1⟩ := rd.tup_inv
      obtain ⟨b, ws, rfl, q2, r2⟩ := re.tup_inv
      refine .inr (.inl ⟨a, b, vs, ws, rfl, rfl, q1, q2, by rw [← r1.length, ← r2.length]; exact szOk.le hz, fun e1 => ?_, fun _ e2 => ?_, fun _ _ => new_tup m (r1.append r2) h⟩)
      · subst e1
        cases r1
        exact h.end_ m re
      · subst e2
        cases r2
        rw [List.append_nil] at h
        exact h.end_ m rd
    · exact h.elim
  · split at h
    · rename_i ds es h1 h2
      split at h
      · rename_i hz
        obtain ⟨a, vs, rfl, q1, r1⟩ := lstM_ok m rd h1
        obtain ⟨b, ws, rfl, q2, r2⟩ := lstM_ok m re h2
        exact .inr (.inr ⟨a, b, vs, ws, rfl, rfl, q1, q2, by rw [← r1.length, ← r2.length]; exact szOk.le hz, new_lst m (r1.append r2) h⟩)
      · exact h.elim
    · exact h.elim
/-- two ints -/
def opII (f : Int → Int → D) (d e : D) (M : Mem) : Res D := match d, e with
  | .int i, .int j => .ok (f i j) M
  | _, _ => .bad
open Classical in
noncomputable def opIC (C : Int → Int → Prop) (f : Int → Int → D) (d e : D) (M : Mem) : Res D := match d, e with
  | .int i, .int j => if C i j then .ok (f i j) M else .bad
  | _, _ => .bad
theorem rs_II {K : PySem.W.Frag} {f : Int → Int → V} {g : Int → Int → D} (hg : ∀ i j L H, Is K L H (g i j) (f i j)) : RS2 K (rI0 f) (opII g) := by
  intro E L H M d e x y Q m rd re h
  unfold opII at h
  split at h
  · cases rd; cases re
    exact ⟨_, _, rfl, rfl, h.end_ m (hg _ _ _ _)⟩
  · exact h.elim
theorem rs_IC {K : PySem.W.Frag} {C : Int → Int → Prop} {f : Int → Int → V} {g : Int → Int → D} (hg : ∀ i j L H, Is K L H (g i j) (f i j)) : RS2 K (rI C f) (opIC C g) := by
  intro E L H M d e x y Q m rd re h
  unfold opIC at h
  split at h
  · split at h
    · rename_i hc
      cases rd; cases re
      exact ⟨_, _, rfl, rfl, hc, h.end_ m (hg _ _ _ _)⟩
    · exact h.elim
  · exact h.elim
abbrev opSub := opII fun i j => .int (i - j)
noncomputable abbrev opFdiv := opIC CDivN fun i j => .int (i.fdiv j)
noncomputable abbrev opFdivW := opIC CDivW fun i j => .int (i / j)
noncomputable abbrev opMod := opIC (fun _ j => j ≠ 0) fun i j => .int (i.fmod j)
noncomputable abbrev opPow := opIC CPow fun i j => .int (i ^ j.toNat)
noncomputable abbrev opShl := opIC CPow fun i j => .int (i * 2 ^ j.toNat)
theorem rs_sub {K : PySem.W.Frag} : RS2 K (rI0 fun i j => .int (i - j)) opSub := rs_II fun _ _ _ _ => .int _
theorem rs_fdiv {K : PySem.W.Frag} : RS2 K (rI CDivN fun i j => .int (i.fdiv j)) opFdiv := rs_IC fun _ _ _ _ => .int _
theorem rs_fdivW {K : PySem.W.Frag} : RS2 K (rI CDivW fun i j => .int (i / j)) opFdivW := rs_IC fun _ _ _ _ => .int _
theorem rs_mod {K : PySem.W.Frag} : RS2 K (rI (fun _ j => j ≠ 0) fun i j => .int (i.fmod j)) opMod := rs_IC fun _ _ _ _ => .int _
theorem rs_pow {K : PySem.W.Frag} : RS2 K (rI CPow fun i j => .int (i ^ j.toNat)) opPow := rs_IC fun _ _ _ _ => .int _
theorem rs_shl {K : PySem.W.Frag} : RS2 K (rI CPow fun i j => .int (i * 2 ^ j.toNat)) opShl := rs_IC fun _ _ _ _ => .int _
abbrev opLt := opII fun i j => .bl (decide (i < j))
abbrev opLe := opII fun i j => .bl (decide (i ≤ j))
abbrev opGt := opII fun i j => .bl (decide (j < i))
abbrev opGe := opII fun i j => .bl (decide (j ≤ i))
theorem rs_lt {K : PySem.W.Frag} : RS2 K (rI0 fun i j => .bl (decide (i < j))) opLt := rs_II fun _ _ _ _ => .bl _
theorem rs_le {K : PySem.W.Frag} : RS2 K (rI0 fun i j => .bl (decide (i ≤ j))) opLe := rs_II fun _ _ _ _ => .bl _
theorem rs_gt {K : PySem.W.Frag} : RS2 K (rI0 fun i j => .bl (decide (j < i))) opGt := rs_II fun _ _ _ _ => .bl _
theorem rs_ge {K : PySem.W.Frag} : RS2 K (rI0 fun i j => .bl (decide (j ≤ i))) opGe := rs_II fun _ _ _ _ => .bl _
/-! a * b: ints, a list many times -/
open Classical in
noncomputable def opMul (d e : D) (M : Mem) : Res D := match d, e with
  | .int i, .int j => if CMulW i j then .ok (.int (i * j)) M else .bad
  | d, .int k => (match lstM d M with
    | some ds => if 0 ≤ k ∧ k ≤ 100000 ∧ szOk (ds.length * k.toNat) = true then .ok (.lst (List.replicate k.toNat ds).flatten) M else .bad
    | none => .bad)
  | _, _ => .bad
theorem op_mulA {X : Cx} : OpR X (binaryOp .Mult) (fun x y H Q => (rI CMulW fun i j => .int (i * j)) x y H Q ∨ rRep x y H Q) := op_mulW.or op_rep
theorem IsL.rep {K : PySem.W.Frag} {L : Wd} {H : Hp} {ds : List D} {vs : List V} (r : IsL K L H ds vs) : ∀ n : Nat, IsL K L H (List.replicate n ds).flatten (List.replicate n vs).flatten
  | 0 => .nil
  | n + 1 => by
    rw [List.replicate_succ, List.replicate_succ, List.flatten_cons, List.flatten_cons]
    exact r.append (IsL.rep r n)
theorem rs_mul {K : PySem.W.Frag} : RS2 K (fun x y H Q => (rI CMulW fun i j => .int (i * j)) x y H Q ∨ rRep x y H Q) opMul := by
  intro E L H M d e x y Q m rd re h
  unfold opMul at h
  split at h
  · split at h
    · rename_i hc
      cases rd; cases re
      exact .inl ⟨_, _, rfl, rfl, hc, h.end_ m (.int _)⟩
    · exact h.elim
  · rename_i k _
    split at h
    · rename_i ds h1
      split at h
      · rename_i hc
        obtain ⟨a, vs, rfl, q1, r1⟩ := lstM_ok m rd h1
        cases re
        exact .inr ⟨a, k, vs, rfl, rfl, q1, by omega, by omega, by rw [← r1.length]; exact szOk.le hc.2.2, new_lst m (r1.rep _) h⟩
      · exact h.elim
    · exact h.elim
  · exact h.elim
/-! ### ==, != -/
mutual
def pdOf : D → Option PyData
  | .non => some .none
  | .bl b => some (.bool b)
  | .int i => some (.int i)
  | .str x => some (.str x)
  | .tup ds => (pdAll ds).map .tuple
  | .lst ds => (pdAll ds).map .list
  | .scr ds => (pdAll ds).map .list
  | _ => none
def pdAll : List D → Option (List PyData)
  | [] => some []
  | d :: ds => (pdOf d).bind fun p => (pdAll ds).map fun ps => p :: ps
end
def pdM (M : Mem) (d : D) : Option PyData := match d with
  | .ref n => (match M[n]? with
    | some (.lst ds) => (pdAll ds).map .list
    | _ => none)
  | d => pdOf d
section
variable {K : PySem.W.Frag} {L : Wd} {H : Hp}
mutual
theorem pdOf_ok : ∀ {d : D} {v : V} {p : PyData}, Is K L H d v → pdOf d = some p → Dp K H v p
  | _, _, _, .non, h => by unfold pdOf at h; cases h; exact .non
  | _, _, _, .bl b, h => by unfold pdOf at h; cases h; exact .bl b
  | _, _, _, .int b, h => by unfold pdOf at h; cases h; exact .int b
  | _, _, _, .str b, h => by unfold pdOf at h; cases h; exact .str b
  | _, _, _, .tup q n r, h => by
    unfold pdOf at h
    obtain ⟨ps, e, rfl⟩ := Option.map_eq_some_iff.mp h
    exact .tup (.inl q) (pdAll_ok r e)
  | _, _, _, .tupK q r, h => by
    unfold pdOf at h
    obtain ⟨ps, e, rfl⟩ := Option.map_eq_some_iff.mp h
    exact .tup (.inr q) (pdAll_ok r e)
  | _, _, _, .lst q n r, h => by
    unfold pdOf at h
    obtain ⟨ps, e, rfl⟩ := Option.map_eq_some_iff.mp h
    exact .lst (.inl (.inl q)) (pdAll_ok r e)
  | _, _, _, .scr q n r, h => by
    unfold pdOf at h
    obtain ⟨ps, e, rfl⟩ := Option.map_eq_some_iff.mp h
    exact .lst (.inl q) (pdAll_ok r e)
  | _, _, _, .scrK q r, h => by
    unfold pdOf at h
    obtain ⟨ps, e, rfl⟩ := Option.map_eq_some_iff.mp h
    exact .lst (.inr q) (pdAll_ok r e)
  | _, _, _, .ty n, h => by unfold pdOf at h; cases h
  | _, _, _, .adr n, h => by unfold pdOf at h; cases h
  | _, _, _, .dic _ _ _, h => by unfold pdOf at h; cases h
  | _, _, _, .obj _ _ _, h => by unfold pdOf at h; cases h
  | _, _, _, .ref _, h => by unfold pdOf at h; cases h
theorem pdAll_ok : ∀ {ds : List D} {vs : List V} {ps : List PyData}, IsL K L H ds vs → pdAll ds = some ps → DpAll K H vs ps
  | _, _, _, .nil, h => by unfold pdAll at h; cases h; exact .nil
  | _, _, _, .cons a b, h => by
    unfold pdAll at h
    obtain ⟨p, e1, h⟩ := Option.bind_eq_some_iff.mp h
    obtain ⟨qs, e2, rfl⟩ := Option.map_eq_some_iff.mp h
    exact .cons (pdOf_ok a e1) (pdAll_ok b e2)
end
theorem pdM_ok {M : Mem} (m : MemIs K L H M) {d : D} {v : V} {p : PyData} (r : Is K L H d v) (h : pdM M d = some p) : Dp K H v p := by
  unfold pdM at h
  split at h
  · rename_i n
    split at h
    · rename_i ds q
      obtain ⟨ps, e, rfl⟩ := Option.map_eq_some_iff.mp h
      obtain ⟨a, rfl, q'⟩ := ref_inv r
      obtain ⟨vs, q2, r2⟩ := m.cell n a _ q' q
      exact .lst (.inl (.inl q2)) (pdAll_ok r2 e)
    · cases h
  · exact pdOf_ok r h
end
/-- == as Python has it, over data without objects -/
def eqM (M : Mem) (d e : D) : Option Bool := match pdM M d, pdM M e with
  | some p, some q => if SeqAt.shaped p && SeqAt.shaped q then some (PyData.eqv p q) else none
  | _, _ => none
def opEq (d e : D) (M : Mem) : Res D := match d, e with
  | .int i, .int j => .ok (.bl (decide (i = j))) M
  | .str x, .str y => .ok (.bl (decide (x = y))) M
  | .bl x, .bl y => .ok (.bl (decide (x = y))) M
  | d, e => (match eqM M d e with
    | some b => .ok (.bl b) M
    | none => .bad)
def opNe (d e : D) (M : Mem) : Res D := match d, e with
  | .int i, .int j => .ok (.bl (!decide (i = j))) M
  | .str x, .str y => .ok (.bl (!decide (x = y))) M
  | .bl x, .bl y => .ok (.bl (!decide (x = y))) M
  | d, e => (match eqM M d e with
    | some b => .ok (.bl (!b)) M
    | none => .bad)
theorem op_eqA {X : Cx} (hu : X.A.units + 64 < cLine) : OpR X (compareOp .Eq) (fun x y H Q => rEq x y H Q ∨ rEqD X.K x y H Q) := op_eq.or (op_eqD hu)
theorem op_neA {X : Cx} (hu : X.A.units + 64 < cLine) : OpR X (compareOp .NotEq) (fun x y H Q => rNe x y H Q ∨ rNeD X.K x y H Q) := op_ne.or (op_neD hu)
theorem eqM_ok {K : PySem.W.Frag} {L : Wd} {H : Hp} {M : Mem} (m : MemIs K L H M) {d e : D} {v w : V} {b : Bool} (rd : Is K L H d v) (re : Is K L H e w) (h : eqM M d e = some b) :
    ∃ p q, Dp K H v p ∧ Dp K H w q ∧ SeqAt.shaped p = true ∧ SeqAt.shaped q = true ∧ PyData.eqv p q = b := by
  unfold eqM at h
  split at h
  · rename_i p q h1 h2
    split at h
    · rename_i hz
      cases h
      exact ⟨p, q, pdM_ok m rd h1, pdM_ok m re h2, and_l hz, and_r hz, rfl⟩
    · cases h
  · cases h
theorem rs_eq {K : PySem.W.Frag} : RS2 K (fun x y H Q => rEq x y H Q ∨ rEqD K x y H Q) opEq := by
  intro E L H M d e x y Q m rd re h
  unfold opEq at h
  split at h
  · cases rd; cases re
    rename_i i j
    exact .inl ⟨rfl, by have := h.end_ m (.bl _); rw [show decide (V.int i = V.int j) = decide (i = j) by rw [dec_int]; exact Bool.beq_eq_decide_eq _ _]; exact this⟩
  · cases rd; cases re
    rename_i i j
    exact .inl ⟨rfl, by have := h.end_ m (.bl _); rw [show decide (V.str i = V.str j) = decide (i = j) by by_cases q : i = j <;> simp [q]]; exact this⟩
  · cases rd; cases re
    rename_i i j
    exact .inl ⟨rfl, by have := h.end_ m (.bl _); rw [show decide (V.bl i = V.bl j) = decide (i = j) by by_cases q : i = j <;> simp [q]]; exact this⟩
  · split at h
    · rename_i b eq
      obtain ⟨p, q, a1, a2, a3, a4, rfl⟩ := eqM_ok m rd re eq
      exact .inr ⟨p, q, a1, a2, a3, a4, h.end_ m (.bl _)⟩
    · exact h.elim
theorem rs_ne {K : PySem.W.Frag} : RS2 K (fun x y H Q => rNe x y H Q ∨ rNeD K x y H Q) opNe := by
  intro E L H M d e x y Q m rd re h
  unfold opNe at h
  split at h
  · cases rd; cases re
    rename_i i j
    exact .inl ⟨rfl, by have := h.end_ m (.bl _); rw [show decide (V.int i = V.int j) = decide (i = j) by by_cases q : i = j <;> simp [q]]; exact this⟩
  · cases rd; cases re
    rename_i i j
    exact .inl ⟨rfl, by have := h.end_ m (.bl _); rw [show decide (V.str i = V.str j) = decide (i = j) by by_cases q : i = j <;> simp [q]]; exact this⟩
  · cases rd; cases re
    rename_i i j
    exact .inl ⟨rfl, by have := h.end_ m (.bl _); rw [show decide (V.bl i = V.bl j) = decide (i = j) by by_cases q : i = j <;> simp [q]]; exact this⟩
  · split at h
    · rename_i b eq
      obtain ⟨p, q, a1, a2, a3, a4, rfl⟩ := eqM_ok m rd re eq
      exact .inr ⟨p, q, a1, a2, a3, a4, h.end_ m (.bl _)⟩
    · exact h.elim
end Ly

namespace Ly
open PySem PySem.Spec PyProof.Rows L2
/-! ### flat things, keys -/
def flatD : D → Bool
  | .non => true
  | .bl _ => true
  | .int _ => true
  | .str _ => true
  | _ => false
def eqFD : D → D → Bool
  | .non, .non => true
  | .bl a, .bl b => a == b
  | .bl a, .int b => (if a then 1 else 0) == b
  | .int a, .bl b => a == (if b then 1 else 0)
  | .int a, .int b => a == b
  | .str a, .str b => a == b
  | _, _ => false
def inD (x : D) (ds : List D) : Bool := ds.any fun y => eqFD y x
def keyOf : D → Option Key
  | .int i => some (.inl i)
  | .str x => some (.inr x)
  | _ => none
def valD (kvs : List (Key × D)) (k : Key) : Option D := (kvs.find? fun kv => decide (kv.1 = k)).map (·.2)
def putD (kvs : List (Key × D)) (k : Key) (v : D) : List (Key × D) :=
  if (kvs.any fun kv => decide (kv.1 = k)) = true then kvs.map (fun kv => if kv.1 = k then (kv.1, v) else kv) else kvs ++ [(k, v)]
def mergeD (kvs more : List (Key × D)) : List (Key × D) := more.foldl (fun acc kv => putD acc kv.1 kv.2) kvs
section
variable {K : PySem.W.Frag} {L : Wd} {H : Hp} {M : Mem} {d e : D} {v w : V} {ds : List D}
theorem flat_ok (r : Is K L H d v) (h : flatD d = true) : flatV v = true := by
  cases r <;> first | rfl | exact nomatch (h : false = true)
theorem eqF_ok (r : Is K L H d v) (q : Is K L H e w) (h : flatD d = true) (h' : flatD e = true) : eqV v w = eqFD d e := by
  cases r <;> first | exact nomatch (h : false = true) | (cases q <;> first | exact nomatch (h' : false = true) | rfl)
theorem flatAll_ok : ∀ {ds : List D} {vs : List V}, IsL K L H ds vs → ds.all flatD = true → vs.all flatV = true
  | _, _, .nil, _ => rfl
  | _, _, .cons a b, h => by
    rw [List.all_cons] at h ⊢
    rw [flat_ok a (and_l h), flatAll_ok b (and_r h)]
    rfl
theorem in_ok (r : Is K L H d v) (h : flatD d = true) : ∀ {ds : List D} {vs : List V}, IsL K L H ds vs → ds.all flatD = true → inV v vs = inD d ds
  | _, _, .nil, _ => rfl
  | _, _, .cons a b, q => by
    rw [List.all_cons] at q
    unfold inV inD
    rw [List.any_cons, List.any_cons, eqF_ok a r (and_l q) h]
    have := in_ok r h b (and_r q)
    unfold inV inD at this
    rw [this]
theorem key_ok {k : Key} (r : Is K L H d v) (h : keyOf d = some k) : v = kV k := by
  cases r <;> first | (cases h; rfl) | cases h
theorem val_ok (k : Key) : ∀ {kvs : List (Key × D)} {kws : List (Key × V)}, IsKV K L H kvs kws → (∀ d, valD kvs k = some d → ∃ v, valV kws k = some v ∧ Is K L H d v) ∧ (valD kvs k = none → valV kws k = none)
  | _, _, .nil => ⟨fun _ h => (nomatch h), fun _ => rfl⟩
  | _, _, @IsKV.cons _ _ _ k' d v ds vs a b => by
    by_cases e : k' = k
    · have h1 : valD ((k', d) :: ds) k = some d := by simp [valD, e]
      have h2 : valV ((k', v) :: vs) k = some v := valV_pos e
      refine ⟨fun d' h => ⟨v, h2, ?_⟩, fun h => ?_⟩
      · rw [h1] at h
        cases h
        exact a
      · rw [h1] at h
        cases h
    · have h1 : valD ((k', d) :: ds) k = valD ds k := by simp [valD, List.find?_cons, e]
      have h2 : valV ((k', v) :: vs) k = valV vs k := valV_neg e
      rw [h1, h2]
      exact val_ok k b
theorem IsKV.length : ∀ {kvs : List (Key × D)} {kws : List (Key × V)}, IsKV K L H kvs kws → kvs.length = kws.length
  | _, _, .nil => rfl
  | _, _, .cons _ b => by rw [List.length_cons, List.length_cons, IsKV.length b]
theorem IsKV.append : ∀ {ds es : List (Key × D)} {vs ws : List (Key × V)}, IsKV K L H ds vs → IsKV K L H es ws → IsKV K L H (ds ++ es) (vs ++ ws)
  | _, _, _, _, .nil, s => s
  | _, _, _, _, .cons r t, s => .cons r (IsKV.append t s)
theorem any_ok (k : Key) : ∀ {kvs : List (Key × D)} {kws : List (Key × V)}, IsKV K L H kvs kws → (kvs.any fun kv => decide (kv.1 = k)) = (kws.any fun kv => decide (kv.1 = k))
  | _, _, .nil => rfl
  | _, _, .cons _ b => by rw [List.any_cons, List.any_cons, any_ok k b]
theorem map_ok {k : Key} (r : Is K L H d v) : ∀ {kvs : List (Key × D)} {kws : List (Key × V)}, IsKV K L H kvs kws → IsKV K L H (kvs.map (fun kv => if kv.1 = k then (kv.1, d) else kv)) (kws.map (fun kv => if kv.1 = k then (kv.1, v) else kv))
  | _, _, .nil => .nil
  | _, _, @IsKV.cons _ _ _ k' d' v' ds vs a b => by
    rw [List.map_cons, List.map_cons]
    by_cases e : k' = k
    · rw [if_pos e, if_pos e]
      exact .cons r (map_ok r b)
    · rw [if_neg e, if_neg e]
      exact .cons a (map_ok r b)
theorem put_ok {k : Key} (r : Is K L H d v) {kvs : List (Key × D)} {kws : List (Key × V)} (h : IsKV K L H kvs kws) : IsKV K L H (putD kvs k d) (putK kws k v) := by
  unfold putD putK
  rw [any_ok k h]
  split
  · exact map_ok r h
  · exact h.append (.cons r .nil)
theorem merge_ok : ∀ {more : List (Key × D)} {mws : List (Key × V)} {kvs : List (Key × D)} {kws : List (Key × V)}, IsKV K L H more mws → IsKV K L H kvs kws → IsKV K L H (mergeD kvs more) (mergeK kws mws)
  | _, _, _, _, .nil, h => h
  | _, _, _, _, @IsKV.cons _ _ _ k' _ _ _ _ a b, h => merge_ok (kvs := putD _ k' _) (kws := putK _ k' _) b (put_ok (k := k') a h)
end
/-! ### in, not in -/
def strIn (x z : Str) : Bool := match x.cps.toList with
  | [c] => decide (c ∈ z.cps.toList)
  | _ => !(Builtin.Str.occurrences z x 0 z.length 1).isEmpty
def inM (M : Mem) (d e : D) : Option Bool := match d, e with
  | .str x, .str z => some (strIn x z)
  | d, e => (match dicOf e M with
    | some kvs => (keyOf d).map fun k => (valD kvs k).isSome
    | none => (match seqOf e M with
      | some ds => if flatD d && ds.all flatD then some (inD d ds) else none
      | none => none))
def opIn (d e : D) (M : Mem) : Res D := match inM M d e with
  | some b => .ok (.bl b) M
  | none => .bad
def opNotIn (d e : D) (M : Mem) : Res D := match inM M d e with
  | some b => .ok (.bl (!b)) M
  | none => .bad
def rInA (K : PySem.W.Frag) (f : Bool → Bool) : R2 := fun x y H Q =>
  ((∃ (c : Nat) (z : Str), x = .str ⟨#[c]⟩ ∧ y = .str z ∧ Q (.bl (f (decide (c ∈ z.cps.toList)))) H) ∨ (∃ i j, x = .str i ∧ y = .str j ∧ Q (.bl (f (!(Builtin.Str.occurrences j i 0 j.length 1).isEmpty))) H)) ∨
  ((∃ a o, y = .ref a ∧ DGet H a x o ∧ Q (.bl (f o.isSome)) H) ∨ (∃ p xs, y = .ref p ∧ (SqL K H p xs ∨ SqT K H p xs) ∧ flatV x = true ∧ xs.all flatV = true ∧ Q (.bl (f (inV x xs))) H))
theorem op_in_dict {X : Cx} (hu : X.A.units + 1 < cLine) : OpR X (compareOp .In) (fun x y H Q => ∃ a o, y = .ref a ∧ DGet H a x o ∧ Q (.bl o.isSome) H) := by
  intro pins s σ H x y v u Q I rx ry ⟨a, o, e, g, q⟩
  subst e
  obtain rfl : u = Value.ref a := ry
  exact d_in hu I g rx fun s3 I3 => ⟨.bl o.isSome, H, I3, rfl, q⟩
theorem op_notin_dict {X : Cx} (hu : X.A.units + 1 < cLine) : OpR X (compareOp .NotIn) (fun x y H Q => ∃ a o, y = .ref a ∧ DGet H a x o ∧ Q (.bl (!o.isSome)) H) := by
  intro pins s σ H x y v u Q I rx ry ⟨a, o, e, g, q⟩
  subst e
  obtain rfl : u = Value.ref a := ry
  exact d_notIn hu I g rx fun s3 I3 => ⟨.bl (!o.isSome), H, I3, rfl, q⟩
theorem op_inA {X : Cx} (hu : X.A.units + 1 < cLine) : OpR X (compareOp .In) (rInA X.K id) := (op_in_sign.or op_in_str).or ((op_in_dict hu).or op_in_seq)
theorem op_notInA {X : Cx} (hu : X.A.units + 1 < cLine) : OpR X (compareOp .NotIn) (rInA X.K not) := (op_notIn_sign.or op_notin_str).or ((op_notin_dict hu).or op_notIn_seq)
theorem inM_ok {K : PySem.W.Frag} {f : Bool → Bool} {L : Wd} {H : Hp} {M : Mem} {d e : D} {x y : V} {Q : VK} {b : Bool} (m : MemIs K L H M) (rd : Is K L H d x) (re : Is K L H e y) (h : inM M d e = some b) (q : Q (.bl (f b)) H) : rInA K f x y H Q := by
  unfold inM at h
  split at h
  · rename_i x z
    cases rd; cases re
    cases h
    unfold strIn at q
    split at q
    · rename_i c hc
      refine .inl (.inl ⟨c, z, ?_, rfl, q⟩)
      obtain ⟨⟨l⟩⟩ := x
      simp at hc
      subst hc
      rfl
    · exact .inl (.inr ⟨_, _, rfl, rfl, q⟩)
  · split at h
    · rename_i kvs hd
      obtain ⟨a, kws, rfl, q1, r1⟩ := dicOf_ok m re hd
      obtain ⟨k, hk, rfl⟩ := Option.map_eq_some_iff.mp h
      obtain rfl := key_ok rd hk
      refine .inr (.inl ⟨a, valV kws k, rfl, DGet.k q1, ?_⟩)
      obtain ⟨z1, z2⟩ := val_ok k r1
      cases hv : valD kvs k with
      | none =>
        rw [z2 hv]
        rw [hv] at q
        exact q
      | some d' =>
        obtain ⟨v', e1, _⟩ := z1 d' hv
        rw [e1]
        rw [hv] at q
        exact q
    · split at h
      · rename_i ds hs
        split at h
        · rename_i hf
          cases h
          obtain ⟨a, vs, rfl, q1, r1⟩ := seqOf_ok m re hs
          exact .inr (.inr ⟨a, vs, rfl, q1, flat_ok rd (and_l hf), flatAll_ok r1 (and_r hf), by rw [in_ok rd (and_l hf) r1 (and_r hf)]; exact q⟩)
        · cases h
      · cases h
theorem rs_in {K : PySem.W.Frag} : RS2 K (rInA K id) opIn := by
  intro E L H M d e x y Q m rd re h
  unfold opIn at h
  split at h
  · rename_i b hb
    exact inM_ok m rd re hb (h.end_ m (.bl _))
  · exact h.elim
theorem rs_notIn {K : PySem.W.Frag} : RS2 K (rInA K not) opNotIn := by
  intro E L H M d e x y Q m rd re h
  unfold opNotIn at h
  split at h
  · rename_i b hb
    exact inM_ok m rd re hb (h.end_ m (.bl _))
  · exact h.elim
/-! ### x[i] -/
def opIx (d e : D) (M : Mem) : Res D := match d, e with
  | .str z, .int i => if szOk z.length then (match atI z.cps.toList i with
    | some c => .ok (.str ⟨#[c]⟩) M
    | none => .bad) else .bad
  | d, e => (match dicOf d M with
    | some kvs => (match (keyOf e).bind (valD kvs) with
      | some v => .ok v M
      | none => .bad)
    | none => (match seqOf d M, e with
      | some ds, .int i => (match atI ds i with
        | some v => .ok v M
        | none => .bad)
      | _, _ => .bad))
def rIxA (K : PySem.W.Frag) : R2 := fun x y H Q => rIx K x y H Q ∨ ∃ a v, x = .ref a ∧ DGet H a y (some v) ∧ Q v H
theorem ix_dict {X : Cx} (hu : X.A.units + 1 < cLine) : IxR X (fun x y H Q => ∃ a v, x = .ref a ∧ DGet H a y (some v) ∧ Q v H) := by
  intro value slice pins s σ H x y v u Q I rx ry ⟨a, w, e, g, q⟩ hs
  subst e
  obtain rfl : v = Value.ref a := rx
  exact PyProof.Rows.tail_any (dict_typeIs I g) PySem.F.slot_dict_getitem.lookup (d_getItem hu I g ry fun w' s3 I3 rw' => ⟨w, H, I3, rw', q⟩) hs
theorem ix_any {X : Cx} (hu : X.A.units + 1 < cLine) : IxR X (rIxA X.K) := ix_seq.or (ix_dict hu)
theorem atI_ok {K : PySem.W.Frag} {L : Wd} {H : Hp} {ds : List D} {vs : List V} {i : Int} {d : D} (r : IsL K L H ds vs) (h : atI ds i = some d) : ∃ v, atI vs i = some v ∧ Is K L H d v := by
  unfold atI at h ⊢
  rw [r.length] at h
  obtain ⟨j, h1, h2⟩ := Option.bind_eq_some_iff.mp h
  obtain ⟨v, h3, h4⟩ := r.get h2
  exact ⟨v, by rw [h1]; exact h3, h4⟩
theorem rs_ix {K : PySem.W.Frag} : RS2 K (rIxA K) opIx := by
  intro E L H M d e x y Q m rd re h
  unfold opIx at h
  split at h
  · split at h
    · rename_i hz
      split at h
      · rename_i c hc
        cases rd; cases re
        exact .inl (.inr (.inr ⟨_, _, c, rfl, rfl, szOk.le hz, hc, h.end_ m (.str _)⟩))
      · exact h.elim
    · exact h.elim
  · split at h
    · rename_i kvs hd
      split at h
      · rename_i v hv
        obtain ⟨k, hk, hv⟩ := Option.bind_eq_some_iff.mp hv
        obtain ⟨a, kws, rfl, q1, r1⟩ := dicOf_ok m rd hd
        obtain rfl := key_ok re hk
        obtain ⟨v', e1, r'⟩ := (val_ok k r1).1 v hv
        exact .inr ⟨a, v', rfl, by rw [← e1]; exact DGet.k q1, h.end_ m r'⟩
      · exact h.elim
    · split at h
      · rename_i ds i hs
        split at h
        · rename_i v hv
          obtain ⟨a, vs, rfl, q1, r1⟩ := seqOf_ok m rd ‹seqOf d M = some _›
          obtain ⟨v', e1, r'⟩ := atI_ok r1 hv
          cases re
          rcases q1 with q1 | q1
          · exact .inl (.inl ⟨a, vs, _, v', rfl, rfl, q1, e1, h.end_ m r'⟩)
          · exact .inl (.inr (.inl ⟨a, vs, _, v', rfl, rfl, q1, e1, h.end_ m r'⟩))
        · exact h.elim
      · exact h.elim
section
variable {G : Gd} {k : Nat} {E : XK} {N : List Str} {sc : Scope} {X : Cx} {a b e o : Expr} {es : List Expr} {ma mb mo : ME} {mr : MA} {pos p2 apos cpos : Pos}
theorem ce_ix (c : Cq G k E N sc X) (ha : PE X a (tD G.K E ma)) (hb : PE X b (tD G.K E mb)) (hs : PlainIx b := by intro _ _; rfl) : PE X (.Subscript a b pos) (tD G.K E (mBin opIx ma mb)) := by
  obtain rfl := c.g
  exact (pe_ix (ix_any (hu_of c.room)) ha hb hs).imp fun _ _ _ h => op_sim rs_ix h
/-! ### x[lo:hi] -/
abbrev MO := Env → Mem → Res (Option Int)
def tOD (K : PySem.W.Frag) (E : XK) (m : MO) : TO := fun σ H Q => ∃ env L M, EnvIs K L H env σ ∧ MemIs K L H M ∧ Fin (fun _ _ a b => a = b) K E L H (m env M) Q
def mNoPart : MO := fun _ M => .ok none M
def mPart (a : ME) : MO := fun env M => (a env M).bind fun d M1 => match d with
  | .int i => .ok (some i) M1
  | _ => .bad
theorem co_none : PO X none (tOD G.K E mNoPart) := ⟨fun pins s σ H Q I ⟨env, L, M, he, hm, h⟩ => po_none.run pins s σ H Q I (h.end_ hm rfl)⟩
theorem co_some (ha : PE X a (tD G.K E ma)) : PO X (some a) (tOD G.K E (mPart ma)) := ⟨fun pins s σ H Q I ⟨env, L, M, he, hm, h⟩ => (po_some ha).run pins s σ H Q I
  ⟨env, L, M, he, hm, Fin.imp (Fin.bind h) fun x H1 ⟨d, M1, L1, s1, m1, r1, h1⟩ => by
    cases r1 with
    | int i => exact ⟨i, rfl, h1.end_ m1 rfl⟩
    | _ => exact h1.elim⟩⟩
def cutD (ds : List D) (lo hi : Option Int) : List D := (ds.drop (HT.sIx ds.length 0 lo)).take (HT.sIx ds.length ds.length hi - HT.sIx ds.length 0 lo)
theorem cut_ok {K : PySem.W.Frag} {L : Wd} {H : Hp} {ds : List D} {vs : List V} {lo hi : Option Int} (r : IsL K L H ds vs) : IsL K L H (cutD ds lo hi) (cutV vs lo hi) := by
  unfold cutD cutV
  rw [r.length]
  exact (r.drop _).take _
def opSl (d : D) (lo hi : Option Int) (M : Mem) : Res D := match d with
  | .str z => if szOk z.length then .ok (.str (cutS z lo hi)) M else .bad
  | .tup ds => .ok (.tup (cutD ds lo hi)) M
  | d => (match lstOf d M with
    | some ds => .ok (.lst (cutD ds lo hi)) M
    | none => .bad)
def mSl (a : ME) (lo hi : MO) : ME := fun env M => (a env M).bind fun d M1 => (lo env M1).bind fun l M2 => (hi env M2).bind fun u M3 => opSl d l u M3
theorem sl_any : SlR X (fun x lo hi H Q => (rSlS x lo hi H Q ∨ rSlA X.K x lo hi H Q) ∨ rSlL X.K x lo hi H Q) := (sl_str.or sl_tupA).or sl_list
theorem ce_sl {lo hi : Option Expr} {ml mh : MO} (c : Cq G k E N sc X) (ha : PE X a (tD G.K E ma)) (hl : PO X lo (tOD G.K E ml)) (hh : PO X hi (tOD G.K E mh)) : PE X (.Subscript a (.Slice lo hi none p2) pos) (tD G.K E (mSl ma ml mh)) := by
  obtain rfl := c.g
  refine (pe_slice sl_any ha hl hh).imp fun σ H Q ⟨env, L, M, he, hm, h⟩ => ?_
  refine ⟨env, L, M, he, hm, Fin.imp (Fin.bind h) fun x H1 ⟨d, M1, L1, s1, m1, r1, h1⟩ => ?_⟩
  refine ⟨env, L1, M1, he.step s1, m1, Fin.imp (Fin.bind h1) fun l H2 ⟨l', M2, L2, s2, m2, r2, h2⟩ => ?_⟩
  cases r2
  refine ⟨env, L2, M2, (he.step s1).step s2, m2, Fin.imp (Fin.bind h2) fun u H3 ⟨u', M3, L3, s3, m3, r3, h3⟩ => ?_⟩
  cases r3
  have r1 := (r1.step s2).step s3
  unfold opSl at h3
  split at h3
  · split at h3
    · rename_i hz
      cases r1
      exact .inl (.inl ⟨_, rfl, szOk.le hz, h3.end_ m3 (.str _)⟩)
    · exact h3.elim
  · rename_i ds
    obtain ⟨ad, vs, rfl, q, r⟩ := r1.tup_inv
    refine .inl (.inr ⟨ad, vs, rfl, q, fun ⟨e1, e2⟩ => ?_, fun _ => new_tup m3 (cut_ok r) h3⟩)
    have cq : ∀ ds' : List D, ds'.length = vs.length → cutD ds' l u = ds' := fun ds' hl => by
      unfold cutD
      rw [hl, e1, e2, List.drop_zero, Nat.sub_zero, ← hl, List.take_length]
    rw [cq _ r.length] at h3
    exact h3.end_ m3 r1
  · split at h3
    · rename_i ds hd
      obtain ⟨ad, vs, rfl, q, r⟩ := lstOf_ok m3 r1 hd
      exact .inr ⟨ad, vs, rfl, q, new_lst m3 (cut_ok r) h3⟩
    · exact h3.elim
/-- x[::-1] of a list -/
def opRev (d : D) (M : Mem) : Res D := match lstOf d M with
  | some ds => .ok (.lst ds.reverse) M
  | none => .bad
theorem ce_rev {kk : Nat} {p1 p2 p3 : Pos} (c : Cq G k E N sc X) (ha : PE X a (tD G.K E ma)) : PE X (.Subscript a (.Slice none none (some (.UnaryOp .USub (.Constant (.int 1) kk p1) p2)) p3) pos) (tD G.K E (mUn opRev ma)) := by
  obtain rfl := c.g
  refine (pe_revL ha).imp fun σ H Q ⟨env, L, M, he, hm, h⟩ => ?_
  refine ⟨env, L, M, he, hm, Fin.imp (Fin.bind h) fun x H1 ⟨d, M1, L1, s1, m1, r1, h1⟩ => ?_⟩
  unfold opRev at h1
  split at h1
  · rename_i ds hd
    obtain ⟨ad, vs, rfl, q, r⟩ := lstOf_ok m1 r1 hd
    exact ⟨ad, vs, rfl, q, new_lst m1 r.reverse h1⟩
  · exact h1.elim
/-- .. as a cell -/
def opRevC (d : D) (M : Mem) : Res D := match lstOf d M with
  | some ds => .ok (.ref M.length) (M ++ [.lst ds.reverse])
  | none => .bad
theorem ce_revC {kk : Nat} {p1 p2 p3 : Pos} (c : Cq G k E N sc X) (ha : PE X a (tD G.K E ma)) : PE X (.Subscript a (.Slice none none (some (.UnaryOp .USub (.Constant (.int 1) kk p1) p2)) p3) pos) (tD G.K E (mUn opRevC ma)) := by
  obtain rfl := c.g
  refine (pe_revL ha).imp fun σ H Q ⟨env, L, M, he, hm, h⟩ => ?_
  refine ⟨env, L, M, he, hm, Fin.imp (Fin.bind h) fun x H1 ⟨d, M1, L1, s1, m1, r1, h1⟩ => ?_⟩
  unfold opRevC at h1
  split at h1
  · rename_i ds hd
    obtain ⟨ad, vs, rfl, q, r⟩ := lstOf_ok m1 r1 hd
    exact ⟨ad, vs, rfl, q, new_lstC m1 r.reverse h1⟩
  · exact h1.elim
end
end Ly

namespace L2
open PySem PySem.Spec PyProof.Rows
/-- a.update(b): two dicts -/
def rUpdate : V → List V → Hp → VK → Prop := fun x vs H Q => ∃ a b kvs more, x = .ref a ∧ vs = [.ref b] ∧ a ≠ b ∧ H a = some (.dK kvs) ∧ H b = some (.dK more) ∧ kvs.length + more.length ≤ sizeLine ∧ Q .non (upd H a (.dK (mergeK kvs more)))
theorem mt_update {X : Cx} : MtM X "dict.update" rUpdate := by
  intro pins s σ H x vs v us Q I rx rv h
  obtain ⟨a, b, kvs, more, rfl, rfl, hne, ha, hb, hz, q⟩ := h
  cases rx
  obtain ⟨u, rfl, ru⟩ := rv.one
  cases ru
  obtain ⟨z, hd, vs, rel, dd⟩ := dk_of I.hok ha
  obtain ⟨z2, hd2, vs2, rel2, dd2⟩ := dk_of I.hok hb
  refine call_meetsIn PySem.F.slot_dict_update dd.typeIs PySem.F.entry_dict_update (PySem.F.args_dict_update_2 _ _) (meets_dict_update (mixKind X.prog X.w) a b hne hd2) ⟨vs, vs2, dd, dd2, by rw [← rel.length, ← rel2.length]; exact hz, fun h' dd' _ hs => ?_⟩
  have he : ∃ q, h'.get? a = some q := let ⟨q, _, _, hq, _⟩ := dd'; ⟨q, hq⟩
  refine ⟨.non, _, d_write I (by rw [ha]; exact True.intro) hs he (dk_new ?_ hd (rel2.merge rel) dd'), rfl, q⟩
  exact Nat.le_trans (length_mergeK more kvs) hz
/-- o[i] = v of a dict -/
theorem set_dict {X : Cx} (hu : X.A.units + 1 < cLine) : PSet X (fun o i v H Q => ∃ a H', o = .ref a ∧ DPut H a i v H' ∧ Q H') := by
  intro pins s σ H o i v ov iv u Q I ro ri rv ⟨a, H', e, g, q⟩
  subst e
  cases ro
  exact d_setItem hu I g ri rv fun s' I' => ⟨H', I', q⟩
theorem PSet.or {X : Cx} {t t' : TSet} (h : PSet X t) (h' : PSet X t') : PSet X (fun o i v H Q => t o i v H Q ∨ t' o i v H Q) := by
  intro pins s σ H o i v ov iv u Q I ro ri rv q
  rcases q with q | q
  · exact h pins s σ H o i v ov iv u Q I ro ri rv q
  · exact h' pins s σ H o i v ov iv u Q I ro ri rv q
end L2
namespace Ly
open PySem PySem.Spec PyProof.Rows L2
theorem XcIs.mv {K : PySem.W.Frag} {L L' : Wd} {H H' : Hp} {x : Xc} {cls : Value} {d : Option Addr} (s : Mv L H L' H') (h : XcIs K L H x cls d) : XcIs K L' H' x cls d := by
  refine ⟨h.1, ?_⟩
  have h2 := h.2
  split at h2
  · exact h2
  · obtain ⟨dd, gs, e, q, n, r⟩ := h2
    exact ⟨dd, gs, e, (s.keep _ _ q n).1, (s.keep _ _ q n).2, r.mv s⟩
section
variable {α β γ δ : Type} {K : PySem.W.Frag} {E : XK} {L L0 : Wd} {H H0 : Hp} {Rl : Wd → Hp → α → β → Prop} {Rm : Wd → Hp → γ → δ → Prop}
/-- an evaluation while a thing at p is being built -/
theorem Fin.under {p : Addr} (hp : H p = none) (s0 : Step L H L0 H0) {r : Res α} {f : α → Mem → Res γ} {Q : δ → Hp → Prop} (h : Fin Rm K E L H (r.bind f) Q) :
    Fin Rl K E (L0.hide p) H0 r (fun b H1 => ∃ a M1 L1, Step L H L1 H1 ∧ H1 p = H0 p ∧ MemIs K (L1.hide p) H1 M1 ∧ Rl (L1.hide p) H1 a b ∧ Mv (L0.hide p) H0 (L1.hide p) H1 ∧ Fin Rm K E L H (f a M1) Q) := by
  cases r with
  | ok a M =>
    intro L' H' b s' m' q
    obtain ⟨L1, rfl, s1⟩ := s0.over hp s'
    exact ⟨a, M, L1, s1, s'.hid p List.mem_cons_self, m', q, s'.mv, h⟩
  | exc x M =>
    intro L' H' c d s' m' q
    obtain ⟨L1, rfl, s1⟩ := s0.over hp s'
    exact h L1 H' c d s1 m'.show (q.mv Mv.show)
  | bad => exact h
end
/-! ### cells that change -/
section
variable {K : PySem.W.Frag} {E : XK} {L : Wd} {H : Hp} {M : Mem} {d : D} {v : V}
theorem put_lst (m : MemIs K L H M) {n : Nat} {a : Addr} {ds : List D} {vs : List V} {Q : VK} (hn : L.l[n]? = some a) (r : IsL K L H ds vs) (rd : Is K L H d v) (h : Fin (Is K) K E L H (.ok d (M.set n (.lst ds))) Q) : Q v (upd H a (.lst vs)) := by
  have st := Step.put (o := .lst vs) m hn
  exact h L _ v st (m.put hn ⟨vs, upd_same, r.step st⟩) (rd.step st)
theorem put_dic (m : MemIs K L H M) {n : Nat} {a : Addr} {ds : List (Key × D)} {vs : List (Key × V)} {Q : VK} (hn : L.l[n]? = some a) (r : IsKV K L H ds vs) (rd : Is K L H d v) (h : Fin (Is K) K E L H (.ok d (M.set n (.dic ds))) Q) : Q v (upd H a (.dK vs)) := by
  have st := Step.put (o := .dK vs) m hn
  exact h L _ v st (m.put hn ⟨vs, upd_same, r.step st⟩) (rd.step st)
end
/-! ### methods of built-in types -/
abbrev MM := D → List D → Mem → Res D
def RSM (K : PySem.W.Frag) (r : V → List V → Hp → VK → Prop) (f : MM) : Prop := ∀ (E : XK) (L : Wd) (H : Hp) (M : Mem) (d : D) (x : V) (ds : List D) (xs : List V) (Q : VK), MemIs K L H M → Is K L H d x → IsL K L H ds xs → Fin (Is K) K E L H (f d ds M) Q → r x xs H Q
def TyS (K : PySem.W.Frag) (T : String) (ty : D → Mem → Bool) : Prop := ∀ (L : Wd) (H : Hp) (M : Mem) (d : D) (x : V), MemIs K L H M → Is K L H d x → ty d M = true → tyV K T x H
def isStr (d : D) (_ : Mem) : Bool := match d with
  | .str _ => true
  | _ => false
def isLst (d : D) (M : Mem) : Bool := (lstOf d M).isSome
def isDic (d : D) (M : Mem) : Bool := (dicOf d M).isSome
theorem ty_str {K : PySem.W.Frag} : TyS K "str" isStr := fun L H M d x m r h => by
  cases r <;> first | rfl | exact nomatch (h : false = true)
theorem ty_lst {K : PySem.W.Frag} : TyS K "list" isLst := fun L H M d x m r h => by
  obtain ⟨ds, q⟩ := Option.isSome_iff_exists.mp h
  obtain ⟨a, vs, rfl, q, _⟩ := lstOf_ok m r q
  exact .inl ⟨rfl, vs, q⟩
theorem ty_dic {K : PySem.W.Frag} : TyS K "dict" isDic := fun L H M d x m r h => by
  obtain ⟨ds, q⟩ := Option.isSome_iff_exists.mp h
  obtain ⟨a, vs, rfl, q, _⟩ := dicOf_ok m r q
  exact .inr (.inr (.inl ⟨rfl, .inl ⟨vs, q⟩⟩))
def mMeth (ty : D → Mem → Bool) (f : MM) (mo : ME) (mr : MA) : ME := fun env M => (mo env M).bind fun d M1 => if ty d M1 then (mr env M1).bind fun ds M2 => f d ds M2 else .bad
section
variable {G : Gd} {k : Nat} {E : XK} {N : List Str} {sc : Scope} {X : Cx} {a b e o : Expr} {es : List Expr} {ma mb mo mv mi : ME} {mr : MA} {pos p2 apos cpos : Pos} {T id : String} {name : Str} {r : V → List V → Hp → VK → Prop} {f : MM} {ty : D → Mem → Bool}
theorem ce_meth (pa : PlainAttrs T) (slot : Slot T name id) (hty : typeOf (.builtin id) = pure (.type "method_descriptor")) (hm : MtR X id r) (ht : TyS G.K T ty) (hr : RSM G.K r f) (c : Cq G k E N sc X) (ho : PE X o (tD G.K E mo)) (ha : PA X (e :: es) (tAD G.K E mr))
    (hbase : attributeBase o name X.env (eval o X.env) = eval o X.env := by rfl)
    (hfew : ((backTo cpos (starEach (e :: es) X.env)).all (fun x => !x.1) && (backToKw cpos (keywordEach [] X.env)).all (fun x => x.1.isSome)
      && decide ((e :: es).length + ([] : List Keyword).length + (if ([] : List Keyword).isEmpty then 0 else 1) < 30)) = true := by rfl)
    (hline : (apos.endLine == cpos.line) = true := by rfl) (hs : starEach (e :: es) X.env = (false, eval e X.env) :: starEach es X.env := by rfl) (hplain : (backTo cpos (starEach es X.env)).any (·.1) = false := by rfl) :
    PE X (.Call (.Attribute o name apos) (e :: es) [] cpos) (tD G.K E (mMeth ty f mo mr)) := by
  obtain rfl := c.g
  refine (pe_bm pa slot hty hm ho ha hbase hfew hline hs hplain).imp fun σ H Q ⟨env, L, M, he, hm, h⟩ => ?_
  refine ⟨env, L, M, he, hm, Fin.imp (Fin.bind h) fun x H1 ⟨d, M1, L1, s1, m1, r1, h1⟩ => ?_⟩
  split at h1
  · rename_i hy
    refine ⟨ht L1 H1 M1 d x m1 r1 hy, env, L1, M1, he.step s1, m1, Fin.imp (Fin.bind h1) fun xs H2 ⟨ds, M2, L2, s2, m2, r2, h2⟩ => ?_⟩
    exact hr E L2 H2 M2 d x ds xs Q m2 (r1.step s2) r2 h2
  · exact h1.elim
theorem ce_meth0 (pa : PlainAttrs T) (slot : Slot T name id) (hty : typeOf (.builtin id) = pure (.type "method_descriptor")) (hm : MtR X id r) (ht : TyS G.K T ty) (hr : RSM G.K r f) (c : Cq G k E N sc X) (ho : PE X o (tD G.K E mo))
    (hbase : attributeBase o name X.env (eval o X.env) = eval o X.env := by rfl) (hline : (apos.endLine == cpos.line) = true := by rfl) : PE X (.Call (.Attribute o name apos) [] [] cpos) (tD G.K E (mMeth ty f mo mNil)) := by
  obtain rfl := c.g
  refine (pe_bm0 pa slot hty hm ho hbase hline).imp fun σ H Q ⟨env, L, M, he, hm, h⟩ => ?_
  refine ⟨env, L, M, he, hm, Fin.imp (Fin.bind h) fun x H1 ⟨d, M1, L1, s1, m1, r1, h1⟩ => ?_⟩
  split at h1
  · rename_i hy
    exact ⟨ht L1 H1 M1 d x m1 r1 hy, hr E L1 H1 M1 d x [] [] Q m1 r1 .nil h1⟩
  · exact h1.elim
/-! .. of lists -/
def fAppend : MM := fun d ds M => match d, ds with
  | .ref n, [e] => (match M[n]? with
    | some (.lst xs) => if szOk (xs.length + 1) then .ok .non (M.set n (.lst (xs ++ [e]))) else .bad
    | _ => .bad)
  | _, _ => .bad
theorem rs_append {K : PySem.W.Frag} : RSM K rAppend fAppend := by
  intro E L H M d x ds xs Q m rd rl h
  unfold fAppend at h
  split at h
  · rename_i n e
    split at h
    · rename_i ys hy
      split at h
      · rename_i hz
        obtain ⟨a, rfl, hn⟩ := ref_inv rd
        obtain ⟨vs, q, r⟩ := m.cell n a _ hn hy
        cases rl with
        | cons r1 r2 =>
          cases r2
          exact ⟨a, vs, _, rfl, rfl, q, by rw [← r.length]; have := szOk.le hz; omega, put_lst m hn (r.append (.cons r1 .nil)) .non h⟩
      · exact h.elim
    · exact h.elim
  · exact h.elim
def fPop : MM := fun d ds M => match d, ds with
  | .ref n, [] => (match M[n]? with
    | some (.lst xs) => (match xs[xs.length - 1]? with
      | some y => .ok y (M.set n (.lst xs.dropLast))
      | none => .bad)
    | _ => .bad)
  | _, _ => .bad
theorem IsL.dropLast {K : PySem.W.Frag} {L : Wd} {H : Hp} {ds : List D} {vs : List V} (r : IsL K L H ds vs) : IsL K L H ds.dropLast vs.dropLast := by
  rw [List.dropLast_eq_take, List.dropLast_eq_take, r.length]
  exact r.take _
theorem rs_pop {K : PySem.W.Frag} : RSM K rPop fPop := by
  intro E L H M d x ds xs Q m rd rl h
  unfold fPop at h
  split at h
  · rename_i n
    split at h
    · rename_i ys hy
      split at h
      · rename_i y hz
        obtain ⟨a, rfl, hn⟩ := ref_inv rd
        obtain ⟨vs, q, r⟩ := m.cell n a _ hn hy
        cases rl
        obtain ⟨yv, e1, r1⟩ := r.get hz
        rw [r.length] at e1
        exact ⟨a, vs, yv, rfl, rfl, q, e1, put_lst m hn r.dropLast r1 h⟩
      · exact h.elim
    · exact h.elim
  · exact h.elim
theorem IsL.eraseIdx {K : PySem.W.Frag} {L : Wd} {H : Hp} : ∀ {ds : List D} {vs : List V} (i : Nat), IsL K L H ds vs → IsL K L H (ds.eraseIdx i) (vs.eraseIdx i)
  | _, _, _, .nil => .nil
  | _, _, 0, .cons _ t => t
  | _, _, i + 1, .cons q t => .cons q (IsL.eraseIdx i t)
def fPopAt : MM := fun d ds M => match d, ds with
  | .ref n, [.int i] => (match M[n]? with
    | some (.lst xs) => if 0 ≤ i ∧ i < xs.length ∧ szOk xs.length = true then (match xs[i.toNat]? with
      | some y => .ok y (M.set n (.lst (xs.eraseIdx i.toNat)))
      | none => .bad) else .bad
    | _ => .bad)
  | _, _ => .bad
theorem rs_popAt {K : PySem.W.Frag} : RSM K rPopAt fPopAt := by
  intro E L H M d x ds xs Q m rd rl h
  unfold fPopAt at h
  split at h
  · rename_i n i
    split at h
    · rename_i ys hy
      split at h
      · rename_i hi
        split at h
        · rename_i y hz
          obtain ⟨a, rfl, hn⟩ := ref_inv rd
          obtain ⟨vs, q, r⟩ := m.cell n a _ hn hy
          cases rl with
          | cons r1 r2 =>
            cases r2
            cases r1
            obtain ⟨yv, e1, r1⟩ := r.get hz
            have hl := of_decide_eq_true hi.2.2
            refine ⟨a, vs, i, i.toNat, yv, rfl, rfl, q, by omega, by omega, seqIndex_of hi.1 (by rw [← r.length]; exact hi.2.1), e1, put_lst m hn (r.eraseIdx _) r1 h⟩
        · exact h.elim
      · exact h.elim
    · exact h.elim
  · exact h.elim
/-! .. of texts -/
def strsOf : List D → Option (List Str)
  | [] => some []
  | .str x :: ds => (strsOf ds).map fun xs => x :: xs
  | _ => none
theorem strsOf_ok {K : PySem.W.Frag} {L : Wd} {H : Hp} : ∀ {ds : List D} {vs : List V} {xs : List Str}, IsL K L H ds vs → strsOf ds = some xs → vs = xs.map V.str
  | _, _, _, .nil, h => by cases h; rfl
  | _, _, _, .cons a b, h => by
    cases a <;> first | (cases (show (none : Option (List Str)) = some _ from h)) | skip
    obtain ⟨ys, e, rfl⟩ := Option.map_eq_some_iff.mp h
    rw [strsOf_ok b e]
    rfl
def fJoin : MM := fun d ds M => match d, ds with
  | .str a, [e] => (match (seqOf e M).bind strsOf with
    | some ys => if (ys.map (·.length)).sum + ys.length * a.length ≤ 100000 then .ok (.str (Txt.join a ys)) M else .bad
    | none => .bad)
  | _, _ => .bad
theorem rs_join {K : PySem.W.Frag} : RSM K (fun x xs H Q => ∃ a p, ∃ ys : List Str, x = .str a ∧ xs = [.ref p] ∧ (SqL K H p (ys.map V.str) ∨ SqT K H p (ys.map V.str)) ∧ (ys.map (·.length)).sum + ys.length * a.length ≤ 16777216 ∧ Q (.str (Txt.join a ys)) H) fJoin := by
  intro E L H M d x ds xs Q m rd rl h
  unfold fJoin at h
  split at h
  · rename_i a e
    split at h
    · rename_i ys hy
      split at h
      · rename_i hz
        obtain ⟨es, h1, h2⟩ := Option.bind_eq_some_iff.mp hy
        cases rl with
        | cons r1 r2 =>
          cases r2
          cases rd
          obtain ⟨p, vs, rfl, q, r⟩ := seqOf_ok m r1 h1
          have := strsOf_ok r h2
          subst this
          exact ⟨a, p, ys, rfl, rfl, q, by omega, h.end_ m (.str _)⟩
      · exact h.elim
    · exact h.elim
  · exact h.elim
/-! .. of dicts -/
def fUpdate : MM := fun d ds M => match d, ds with
  | .ref n, [e] => (match M[n]?, dicOf e M with
    | some (.dic kvs), some more => (match e with
      | .ref j => if n = j then .bad else if szOk (kvs.length + more.length) then .ok .non (M.set n (.dic (mergeD kvs more))) else .bad
      | _ => if szOk (kvs.length + more.length) then .ok .non (M.set n (.dic (mergeD kvs more))) else .bad)
    | _, _ => .bad)
  | _, _ => .bad
theorem rs_update {K : PySem.W.Frag} : RSM K rUpdate fUpdate := by
  intro E L H M d x ds xs Q m rd rl h
  unfold fUpdate at h
  split at h
  · rename_i n e
    split at h
    · rename_i kvs more h1 h2
      obtain ⟨a, rfl, hn⟩ := ref_inv rd
      obtain ⟨kws, q, r⟩ := m.cell n a _ hn h1
      cases rl with
      | cons r1 r2 =>
        cases r2
        obtain ⟨b, mws, rfl, q2, r2⟩ := dicOf_ok m r1 h2
        have go : a ≠ b → szOk (kvs.length + more.length) = true → Fin (Is K) K E L H (.ok .non (M.set n (.dic (mergeD kvs more)))) Q → rUpdate (.ref a) [.ref b] H Q := fun ne hz h =>
          ⟨a, b, kws, mws, rfl, rfl, ne, q, q2, by rw [← r.length, ← r2.length]; exact szOk.le hz, put_dic m hn (merge_ok r2 r) .non h⟩
        split at h
        · rename_i j
          split at h
          · exact h.elim
          · rename_i nj
            split at h
            · rename_i hz
              refine go (fun z => nj ?_) hz h
              obtain ⟨b', eb, hj⟩ := ref_inv r1
              cases eb
              subst z
              exact nodup_at m.nd hn hj
            · exact h.elim
        · rename_i nr
          split at h
          · rename_i hz
            refine go (fun z => ?_) hz h
            subst z
            cases r1 with
            | dic _ o _ => exact o.1 (List.mem_of_getElem? hn)
            | ref _ => exact nr _ rfl
            | _ => cases h2
          · exact h.elim
    · exact h.elim
  · exact h.elim
/-- d.get(k, x) -/
def opGet (d y z : D) (M : Mem) : Res D := match dicOf d M, keyOf y with
  | some kvs, some k => .ok ((valD kvs k).getD z) M
  | _, _ => .bad
def mGet (mo ma mb : ME) : ME := fun env M => (mo env M).bind fun d M1 => if isDic d M1 then (ma env M1).bind fun y M2 => (mb env M2).bind fun z M3 => opGet d y z M3 else .bad
theorem ce_get (c : Cq G k E N sc X) (ho : PE X o (tD G.K E mo)) (ha : PE X a (tD G.K E ma)) (hb : PE X b (tD G.K E mb)) (m2 : M2 X o "get" apos a b cpos) : PE X (.Call (.Attribute o "get" apos) [a, b] [] cpos) (tD G.K E (mGet mo ma mb)) := by
  refine (pe_dget2 (hu_of c.room) ho ha hb m2).imp fun σ H Q ⟨env, L, M, he, hm, h⟩ => ?_
  refine ⟨env, L, M, he, hm, Fin.imp (Fin.bind h) fun x H1 ⟨d, M1, L1, s1, m1, r1, h1⟩ => ?_⟩
  split at h1
  · rename_i hy
    obtain ⟨kvs, hk⟩ := Option.isSome_iff_exists.mp hy
    obtain ⟨ad, kws, rfl, q, r⟩ := dicOf_ok m1 r1 hk
    refine ⟨ad, rfl, .inl ⟨kws, .inl q⟩, env, L1, M1, he.step s1, m1, Fin.imp (Fin.bind h1) fun y H2 ⟨yd, M2, L2, s2, m2, r2, h2⟩ => ?_⟩
    refine ⟨env, L2, M2, (he.step s1).step s2, m2, Fin.imp (Fin.bind h2) fun z H3 ⟨zd, M3, L3, s3, m3, r3, h3⟩ => ?_⟩
    unfold opGet at h3
    split at h3
    · rename_i kvs3 k3 hd3 hk3
      obtain ⟨ad', kws3, e3, q3, r3'⟩ := dicOf_ok m3 ((r1.step s2).step s3) hd3
      cases e3
      obtain rfl := key_ok (r2.step s3) hk3
      refine ⟨valV kws3 k3, DGet.k q3, ?_⟩
      obtain ⟨z1, z2⟩ := val_ok k3 r3'
      cases hv : valD kvs3 k3 with
      | none =>
        rw [z2 hv]
        rw [hv] at h3
        exact h3.end_ m3 r3
      | some w =>
        obtain ⟨v', e1, r'⟩ := z1 w hv
        rw [e1]
        rw [hv] at h3
        exact h3.end_ m3 r'
    · exact h3.elim
  · exact h1.elim
/-! ### o[i] = v -/
def setM (M : Mem) (d i v : D) : Option Mem := match d with
  | .ref n => (match M[n]? with
    | some (.lst xs) => (match i with
      | .int j => (ixN xs.length j).map fun q => M.set n (.lst (xs.set q v))
      | _ => none)
    | some (.dic kvs) => (match keyOf i with
      | some k => if szOk (kvs.length + 1) then some (M.set n (.dic (putD kvs k v))) else none
      | none => none)
    | _ => none)
  | _ => none
def mSetItem (mv mo mi : ME) : MS := fun env M => (mv env M).bindS fun v M1 => (mo env M1).bindS fun d M2 => (mi env M2).bindS fun i M3 => match setM M3 d i v with
  | some M4 => .nx env M4
  | none => .bad
theorem cs_setItem {i : Expr} {pos' : Pos} (c : Cq G k E N sc X) (hv : PE X e (tD G.K E mv)) (ho : PE X o (tD G.K E mo)) (hi : PE X i (tD G.K E mi)) (hs : swapsWithSole [.Subscript o i pos'] e pos.line X.env = pure false := by rfl) (hw : swappedStores [.Subscript o i pos'] e X.env = pure none := by rfl)
    (h1 : (assignEach [.Subscript o i pos'] X.env).map (·.2) = [assign (.Subscript o i pos') X.env] := by rfl)
    (ha : ∀ v, assign (.Subscript o i pos') X.env v = (do
      let ov ← holding [v] (eval o X.env)
      let iv ← holding [v, ov] (eval i X.env)
      standAt pos'
      holding [v, ov, iv] (setItem ov iv v)
      release [v, ov, iv] []) := by intro _; rfl) : PS X (.Assign [.Subscript o i pos'] e pos) (sD G.K E (mSetItem mv mo mi)) := by
  refine (ps_asg hv (pg_sub ho hi (set_list.or (set_dict (hu_of c.room))) ha) hs hw h1).imp fun T σ H ⟨env, L, M, he, hm, h⟩ => ?_
  refine ⟨env, L, M, he, hm, Fin.imp (Fin.bindS h) fun x H1 ⟨v, M1, L1, s1, m1, r1, h1⟩ => ?_⟩
  refine ⟨env, L1, M1, he.step s1, m1, Fin.imp (Fin.bindS h1) fun y H2 ⟨d, M2, L2, s2, m2, r2, h2⟩ => ?_⟩
  refine ⟨env, L2, M2, (he.step s1).step s2, m2, Fin.imp (Fin.bindS h2) fun z H3 ⟨j, M3, L3, s3, m3, r3, h3⟩ => ?_⟩
  have rv := (r1.step s2).step s3
  have rd := r2.step s3
  have e3 := ((he.step s1).step s2).step s3
  cases q : setM M3 d j v with
  | none =>
    rw [q] at h3
    exact h3.elim
  | some M4 =>
    rw [q] at h3
    unfold setM at q
    split at q
    · rename_i n
      split at q
      · rename_i xs hx
        obtain ⟨ad, rfl, hn⟩ := ref_inv rd
        obtain ⟨vs, q1, rr⟩ := m3.cell _ ad _ hn hx
        split at q
        · rename_i jj
          obtain ⟨k', hk, rfl⟩ := Option.map_eq_some_iff.mp q
          cases r3
          have st := Step.put (o := .lst (vs.set k' x)) m3 hn
          exact .inl ⟨ad, vs, jj, k', rfl, rfl, q1, by rw [← rr.length]; exact hk, h3 L3 _ σ st (m3.put hn ⟨_, upd_same, (rr.set rv k').step st⟩) (e3.step st)⟩
        · cases q
      · rename_i kvs hx
        obtain ⟨ad, rfl, hn⟩ := ref_inv rd
        obtain ⟨kws, q1, rr⟩ := m3.cell _ ad _ hn hx
        split at q
        · rename_i k' hk
          split at q
          · rename_i hz
            cases q
            obtain rfl := key_ok r3 hk
            have st := Step.put (o := .dK (putK kws k' x)) m3 hn
            exact .inr ⟨ad, _, rfl, DPut.k q1 (by rw [← rr.length]; have := szOk.lt hz; omega), h3 L3 _ σ st (m3.put hn ⟨_, upd_same, (put_ok rv rr).step st⟩) (e3.step st)⟩
          · cases q
        · cases q
      · cases q
    · cases q
end
end Ly

namespace L2
open PySem PySem.Spec PyProof.Rows
/-! ### repr of data -/
mutual
theorem Dp.noDict {K : PySem.W.Frag} {H : Hp} : ∀ {v : V} {d : PyData}, Dp K H v d → d.hasDict = false
  | _, _, .non => rfl
  | _, _, .bl _ => rfl
  | _, _, .int _ => rfl
  | _, _, .str _ => rfl
  | _, _, .lst _ h => by unfold PyData.hasDict; exact DpAll.noDict h
  | _, _, .tup _ h => by unfold PyData.hasDict; exact DpAll.noDict h
theorem DpAll.noDict {K : PySem.W.Frag} {H : Hp} : ∀ {vs : List V} {ds : List PyData}, DpAll K H vs ds → PyData.hasDictAll ds = false
  | _, _, .nil => rfl
  | _, _, .cons a b => by unfold PyData.hasDictAll; rw [Dp.noDict a, DpAll.noDict b]; rfl
end
def rRepr (K : PySem.W.Frag) : List V → Hp → VK → Prop := fun xs H Q => ∃ x d, xs = [x] ∧ Dp K H x d ∧ d.showable = true ∧ d.depth ≤ 60 ∧ d.shown.length ≤ sizeLine ∧ Q (.str d.shown) H
theorem call_repr_data {X : Cx} (hg : X.A.guards = some []) (hu : X.A.units + 64 < cLine) : CallR X (.builtin "repr") (rRepr X.K) := by
  intro pins s σ H xs us Q I r h
  obtain ⟨x, d, rfl, dp, hs, hd, hz, q⟩ := h
  obtain ⟨u, rfl, ru⟩ := vals1 r
  have nd := dp.noDict
  obtain ⟨as, rd⟩ := Dp.reads I d x u dp ru
  cases dp with
  | non =>
    cases ru
    exact PySem.P.repr_of_none ⟨.str _, H, I.tok _, ⟨_, rfl⟩, q⟩
  | bl b =>
    cases ru
    exact PySem.P.repr_of_bool ⟨.str _, H, I.tok _, ⟨_, rfl⟩, q⟩
  | int i =>
    obtain ⟨t, rfl⟩ := ru
    exact PySem.P.repr_of_int (of_decide_eq_true hs) ⟨.str _, H, I.tok _, ⟨_, rfl⟩, q⟩
  | str z =>
    obtain ⟨t, rfl⟩ := ru
    exact PySem.P.repr_of_str ⟨.str _, H, I.tok _, ⟨_, rfl⟩, q⟩ hz
  | lst a b =>
    cases ru
    exact repr_of_reads' rd hs (PyData.noDict_hsm nd) hg (by omega) (fun _ _ e => e) (fun h' u tk hk => ⟨.str _, H, I.kept hk, ⟨_, rfl⟩, q⟩) hz
  | tup a b =>
    cases ru
    exact repr_of_reads' rd hs (PyData.noDict_hsm nd) hg (by omega) (fun _ _ e => e) (fun h' u tk hk => ⟨.str _, H, I.kept hk, ⟨_, rfl⟩, q⟩) hz
/-! ### a list, a tuple, a text walked -/
def iAny (K : PySem.W.Frag) (tl : TE) : TI := fun σ H R => tl σ H fun x H1 => (∃ a, x = .ref a ∧ (∃ xs, SqL K H1 a xs) ∧ R (Itl K a) H1) ∨ (∃ a, x = .ref a ∧ (∃ xs, SqT K H1 a xs) ∧ R (Itt K a) H1) ∨ (∃ z, x = .str z ∧ R (Its z) H1)
theorem pi_any {X : Cx} {tg l : Expr} {tl : TE} (hl : PE X l tl) : PI X tg l (iAny X.K tl) := by
  refine ⟨fun pins s σ H R I h => thn (hl.run pins s σ H _ I h) fun v s1 ⟨x, H1, I1, r1, q1⟩ => ?_⟩
  rcases q1 with ⟨a, rfl, ⟨xs, hq⟩, q⟩ | ⟨a, rfl, ⟨xs, hq⟩, q⟩ | ⟨z, rfl, q⟩
  · cases r1
    obtain ⟨its, _, pl, _⟩ := I1.list hq
    exact wpAny_pyIter_list pl.isList (pi_one (tk := s1.toks) I1 _ (turn_list a _) ⟨_, Heap.get?_push_size _ rfl, rfl, rfl⟩ q)
  · cases r1
    obtain ⟨its, _, pl, _⟩ := I1.tuple hq
    exact wpAny_pyIter_tuple pl (pi_one (tk := s1.toks) I1 _ (turn_tuple a _) ⟨_, Heap.get?_push_size _ rfl, rfl, rfl⟩ q)
  · obtain ⟨t, rfl⟩ := r1
    cases hz : z.cps.all (· < 128) with
    | false => exact wpAny_pyIter_wide hz (pi_one (tk := s1.toks) I1 _ (turn_str _ z t "str_iterator" (.inr rfl)) ⟨_, Heap.get?_push_size _ rfl, rfl, rfl⟩ q)
    | true => exact wpAny_pyIter_ascii hz (pi_one (tk := s1.toks) I1 _ (turn_str _ z t "str_ascii_iterator" (.inl rfl)) ⟨_, Heap.get?_push_size _ rfl, rfl, rfl⟩ q)
/-! ### enumerate of a tuple -/
theorem enum_new1 {prog : Program} {w : World} {A : Around} {E : Value → Shared → Prop} {s : Shared} {t : Addr} {items : Array Value} {Q : Value → Shared → Prop} (ht : s.heap.IsTuple t items)
    (h : ∀ h', IsEnum h' (s.heap.objs.size + 1) s.heap.objs.size 0 .none → h'.IsTupleIter s.heap.objs.size t 0 → (∀ b o, s.heap.get? b = some o → h'.get? b = some o) → Q (.ref (s.heap.objs.size + 1)) { s with heap := h' }) :
    wpAny (model prog w) A (call (.type "enumerate") [.ref t]) Q E s := by
  have new : Meets (Builtin.«enumerate.__new__» ⟨[.type "enumerate", .ref t], []⟩) (fun _ R s => s.heap.IsTuple t items ∧
      R (.ok (.ret (.ref (s.heap.push { cls := .type "tuple_iterator", data := .fields #[.ref t, .int 0 0] }).objs.size)))
        { s with heap := (s.heap.push { cls := .type "tuple_iterator", data := .fields #[.ref t, .int 0 0] }).push { cls := .type "enumerate", data := .fields #[.none, .bool false, .ref s.heap.objs.size, rawInt 0, .none, .none] } }) :=
    .of_wp fun prog w A R s ⟨h1, h⟩ => by
      obtain ⟨hp, g, d, tk, os⟩ := s
      have sub := sub_enumerate
      have it : ∀ {A' : Around} {E : Value → Shared → Prop} {Q : Value → Shared → Prop}, Q (.ref hp.objs.size) ⟨hp.push { cls := .type "tuple_iterator", data := .fields #[.ref t, .int 0 0] }, g, d, tk, os⟩ → wpAny (model prog w) A' (pyIter (.ref t)) Q E ⟨hp, g, d, tk, os⟩ :=
        fun q => (begins_tuple t items).iter prog w _ _ ⟨hp, g, d, tk, os⟩ _ h1 q
      wp_walk using it
      refine wpAny_stack_any fun st => wpAny_pure ?_
      split
      · rename_i c _ _ _ _ _
        cases (c == Value.type "enumerate") <;> (wp_walk using it; exact ⟨_, rfl, h⟩)
      · wp_walk using it
        exact ⟨_, rfl, h⟩
  refine callType_new F.called_enumerate (by decide) (F.typeCall_enumerate_1 _) (F.newCall_enumerate_1 _) (fun obj => F.args_object_init_2 obj _) F.entry_enumerate_new new ⟨ht, ?_⟩
  have size : (s.heap.push { cls := .type "tuple_iterator", data := .fields #[.ref t, .int 0 0] }).objs.size = s.heap.objs.size + 1 := Heap.size_push ..
  have en : IsEnum ((s.heap.push { cls := .type "tuple_iterator", data := .fields #[.ref t, .int 0 0] }).push { cls := .type "enumerate", data := .fields #[.none, .bool false, .ref s.heap.objs.size, rawInt 0, .none, .none] }) (s.heap.objs.size + 1) s.heap.objs.size 0 .none := by
    rw [← size]
    exact Heap.get?_push_size _ rfl
  show _ ∧ _
  rw [size]
  exact ⟨⟨_, en, rfl⟩, h _ en ⟨_, Heap.get?_push_of_some _ (Heap.get?_push_size _ rfl), rfl, rfl⟩ fun b o x => Heap.get?_push_of_some _ (Heap.get?_push_of_some _ x)⟩
/-- the tuple at a, numbered -/
def ItET (K : PySem.W.Frag) (a : Addr) : It :=
  ⟨fun i H => ∃ (xs : List V) (x : V), SqT K H a xs ∧ xs[i]? = some x, fun i H v H' => ∃ T x, v = .ref T ∧ H T = none ∧ H' = upd H T (.tup [.int (i : Nat), x]) ∧ ∀ xs, SqT K H a xs → xs[i]? = some x, fun i H => ∃ xs : List V, SqT K H a xs ∧ xs.length = i⟩
theorem turn_enumT {P : Program} {w : World} {K : PySem.W.Frag} {elts : List Expr} {kk : Nat} {tpos : Pos} (a e it : Addr) :
    Turn P w K (.Tuple elts kk tpos) (ItET K a) [e, it] e (fun i h => (∃ old, IsEnum h e it ((i : Nat) : Int) old) ∧ h.IsTupleIter it a i) where
  mem := List.mem_cons_self
  obj := fun i h st b hb => by
    obtain ⟨⟨old, he⟩, o, ho, _, hd⟩ := st
    rcases List.mem_cons.mp hb with rfl | hb
    · exact ⟨_, he, fun v z => by cases (show Data.fields _ = Data.cell v from z)⟩
    · rw [List.mem_singleton.mp hb]
      exact ⟨o, ho, fun v z => by rw [hd] at z; cases z⟩
  keep := fun i h h' st k => ⟨let ⟨old, he⟩ := st.1; ⟨old, k e (by simp) _ he⟩, st.2.at fun o q => k it (by simp) o q⟩
  item := by
    intro X hP hw hK hc i pins s σ H E I hf st hg
    subst hP hw hK
    obtain ⟨⟨old, he⟩, hit⟩ := st
    obtain ⟨xs, x, hq, hx⟩ := hg
    obtain ⟨its, rv, pl, _⟩ := I.tuple hq
    obtain ⟨u, hu, ru⟩ := rv.get hx
    have hit' := hit
    obtain ⟨oi, hoi, hci, _⟩ := hit'
    have pl' := pl
    obtain ⟨oa, hoa, hca, _⟩ := pl'
    have nai : a ≠ it := fun z => by
      rw [z, hoi] at hoa
      cases hoa
      rw [hci] at hca
      exact absurd hca (by decide)
    have nei : e ≠ it := fun z => by
      rw [← z, he] at hoi
      cases hoi
      exact absurd (show Value.type "enumerate" = Value.type "tuple_iterator" from hci) (by decide)
    have nea : e ≠ a := fun z => by
      rw [← z, he] at hoa
      cases hoa
      exact absurd (show Value.type "enumerate" = Value.type "tuple" from hca) (by decide)
    have hei : e < s.heap.objs.size := Heap.lt_size he
    have hil : it < s.heap.objs.size := Heap.lt_size hoi
    refine wpAny_pyNext_enum_itemD (Draws.tuple (A := X.A.in1) (I.ok.hd hc) it a nai its.toArray) he ⟨hit, pl⟩ (by
      have := (List.getElem?_eq_some_iff.mp hu).1
      simpa using this) nei (by simp [nei, nea]) fun y h' tk hy ho st' hT _ hk => ?_
    have ey : y = u := by
      have : its[i]? = some y := by simpa using hy
      rw [hu] at this
      exact (Option.some.inj this).symm
    subst ey
    refine ⟨_, rfl, wpAny_letOwnedTupleGo_enum (s := { s with heap := h', toks := tk + 1 }) ho fun h'' he' sb => ?_⟩
    have hT2 : h''.get? s.heap.objs.size = some { cls := .type "tuple", data := .seq #[.int i tk, y] } := (sb.2 _ (Nat.ne_of_gt hei)).trans hT
    have new : ObjOk X.prog X.w (upd H s.heap.objs.size (.tup [.int (i : Nat), x])) h'' s.heap.objs.size (.tup [.int (i : Nat), x]) :=
      ⟨by show 2 ≤ sizeLine; decide, [.int i tk, y], .cons ⟨_, rfl⟩ (.cons ru .nil), ⟨_, hT2, rfl, _, rfl⟩⟩
    have I1 : Inv X pins σ (upd H s.heap.objs.size (.tup [.int (i : Nat), x])) { s with heap := h'', toks := tk + 1 } :=
      I.turnedNew (ch := [e, it]) (fun b ob hb q => (sb.2 b (fun z => hb (by simp [z]))).trans (hk b ob (fun z => hb (by simp [z])) (fun z => hb (by simp [z])) q)) hf (Nat.le_refl _) new
    refine ⟨.ref s.heap.objs.size, _, I1, rfl, ⟨_, x, rfl, I.hok.fresh (Nat.le_refl _), rfl, fun ys hy => by rw [I.tuple_inj hy hq]; exact hx⟩, ⟨⟨y, ?_⟩, st'.1.at fun o q => (sb.2 it (Ne.symm nei)).trans q⟩, fun b hb => ?_⟩
    · rw [show ((i + 1 : Nat) : Int) = (i : Int) + 1 by omega]
      exact he'
    · rw [upd_ne (Nat.ne_of_lt ((List.mem_cons.mp hb).elim (fun z => z ▸ hei) fun z => (List.mem_singleton.mp z) ▸ hil))]
      exact (hf b hb).1
  done := by
    intro X hP hw hK hc i pins s σ H E I hf st hg
    subst hP hw hK
    obtain ⟨⟨old, he⟩, hit⟩ := st
    obtain ⟨xs, hq, rfl⟩ := hg
    obtain ⟨its, rv, pl, _⟩ := I.tuple hq
    obtain ⟨f0, f1, f2, f3, f4, f5⟩ := hf it (by simp)
    have hit' := hit
    obtain ⟨oi, hoi, hci, _⟩ := hit'
    have pl' := pl
    obtain ⟨oa, hoa, hca, _⟩ := pl'
    have nai : a ≠ it := fun z => by
      rw [z, hoi] at hoa
      cases hoa
      rw [hci] at hca
      exact absurd hca (by decide)
    refine wpAny_pyNext_enum_endD (Draws.tuple (A := X.A.in1) (I.ok.hd hc) it a nai its.toArray) he ?_ fun h' eb => ⟨rfl, I.turned (t' := s.toks) (fun b o hb q => eb b o hb q) f0 f1 f3 f4 f5⟩
    have : its.toArray.size = xs.length := by rw [List.size_toArray, rv.length]
    rw [this]
    exact ⟨hit, pl⟩
  self := fun A i s Q E st h => let ⟨⟨_, he⟩, _⟩ := st; wpAny_pyIter_enum he h
def iEnumA (K : PySem.W.Frag) (ta : TA) : TI := fun σ H R => ta σ H fun vs H1 => (∃ a xs, vs = [.ref a] ∧ SqL K H1 a xs ∧ R (Ite K a) H1) ∨ ∃ a xs, vs = [.ref a] ∧ SqT K H1 a xs ∧ R (ItET K a) H1
theorem pi_enumA {X : Cx} {e : Expr} {ta : TA} {p pos tpos : Pos} {elts : List Expr} {kk : Nat} (hg : Gl X "enumerate") (hm : X.mg "enumerate" = none) (ha : PA X [e] ta) (hs : starEach [e] X.env = [(false, eval e X.env)] := by rfl) :
    PI X (.Tuple elts kk tpos) (.Call (.Name "enumerate" p) [e] [] pos) (iEnumA X.K ta) := by
  refine ⟨fun pins s σ H R I h => Call_ (ld_blt I hg hm boot_enumerate (PyProof.Rows.callWith_type1 (thn (ha.run pos pins s σ H _ I h) fun us s1 ⟨vs, H1, I1, r1, q1⟩ => ?_) hs rfl))⟩
  have two : ∀ b ∈ [s1.heap.objs.size + 1, s1.heap.objs.size], FpOk X pins H1 b := fun b hb => by
    have le : s1.heap.objs.size ≤ b := by
      rcases List.mem_cons.mp hb with z | z
      · omega
      · have := List.mem_singleton.mp z
        omega
    exact I1.fpOk le (I1.hok.fresh le)
  rcases q1 with ⟨a, xs, rfl, hq, q⟩ | ⟨a, xs, rfl, hq, q⟩
  · obtain ⟨u, rfl, ru⟩ := vals1 r1
    cases ru
    obtain ⟨its, _, pl, _⟩ := I1.list hq
    refine call_enumerate_list pl.isList fun h' he hit hsz hk => wpAny_pyIter_enum he ?_
    exact ⟨_, [s1.heap.objs.size + 1, s1.heap.objs.size], _, _, H1, rfl, I1.kept (t' := s1.toks) hk, turn_enum a (s1.heap.objs.size + 1) s1.heap.objs.size, ⟨⟨.none, he⟩, hit, Nat.succ_ne_self _⟩, two, q⟩
  · obtain ⟨u, rfl, ru⟩ := vals1 r1
    cases ru
    obtain ⟨its, _, pl, _⟩ := I1.tuple hq
    refine enum_new1 pl fun h' he hit hk => wpAny_pyIter_enum he ?_
    exact ⟨_, [s1.heap.objs.size + 1, s1.heap.objs.size], _, _, H1, rfl, I1.kept (t' := s1.toks) hk, turn_enumT a (s1.heap.objs.size + 1) s1.heap.objs.size, ⟨⟨.none, he⟩, hit⟩, two, q⟩
/-! ### a, b, *c = a tuple -/
theorem pgs_star {X : Cx} {t : Expr} {es : List Expr} {g : TG} {u : TGs} {sp : Pos} (h1 : PG X t g) (h2 : PGs X es u) : PGs X (.Starred t sp :: es) (gCons g u) := by
  refine ⟨fun pins s σ H vs us Q I r h => ?_⟩
  obtain ⟨v, vr, rfl, h⟩ := h
  cases r with
  | cons r rr => exact assignInOrder_cons (thn (h1.run pins s σ H _ _ _ I r h) fun _ s1 ⟨σ1, H1, I1, q1⟩ => h2.run pins s1 σ1 H1 _ _ Q I1 rr q1)
def gStar (K : PySem.W.Frag) (n i : Nat) (t : TGs) : TG := fun v σ H Q => ∃ a xs, v = .ref a ∧ SqT K H a xs ∧ n ≤ xs.length + 1 ∧ xs.length ≤ 16384 ∧
  ∀ p, H p = none → t (xs.take i ++ [.ref p] ++ (xs.drop i).drop (xs.length + 1 - n)) σ (upd H p (.lst ((xs.drop i).take (xs.length + 1 - n)))) Q
theorem ObjOk.there {P : Program} {w : World} {H : Hp} {h : Heap} {a : Addr} {o : HO} (x : ObjOk P w H h a o) : ∃ ob, h.get? a = some ob := by
  cases o with
  | lst xs => exact let ⟨_, _, _, _, e⟩ := x; ⟨_, e⟩
  | tup xs => exact let ⟨_, _, _, _, e, _⟩ := x; ⟨_, e⟩
  | dK kvs => exact let ⟨_, _, _, _, o, _, _, e, _⟩ := x; ⟨o, e⟩
  | dT kvs => exact let ⟨_, _, _, _, o, _, _, e, _⟩ := x; ⟨o, e⟩
  | set S n => exact let ⟨o, _, _, _, e, _⟩ := x; ⟨o, e⟩
  | ins C dx fs => exact let ⟨_, _, _, e, _⟩ := x; ⟨_, e⟩
  | own y => exact x
  | xd fs => exact let ⟨_, ⟨o, _, _, e, _⟩, _⟩ := x; ⟨o, e⟩
  | rng lo hi => exact let ⟨_, _, _, e⟩ := x; ⟨_, e⟩
  | frz ob u => exact let ⟨e, _⟩ := x; ⟨_, e⟩
  | tbl ps => exact ⟨_, x⟩
  | met f y => exact ⟨_, x⟩
  | ext φ => exact let ⟨_, e, _⟩ := x; e
theorem ns_same {h : Heap} {a : Addr} {m m' : Str → Option Value} (x : h.Ns a m) (y : h.Ns a m') : m = m' := by
  obtain ⟨o, es, ep, e1, d1, _, f1⟩ := x
  obtain ⟨o', es', ep', e2, d2, _, f2⟩ := y
  rw [e1] at e2
  cases e2
  rw [d1] at d2
  cases d2
  exact funext fun n => (f1 n).symm.trans (f2 n)
theorem pg_star {X : Cx} {es : List Expr} {k n i : Nat} {t : TGs} {pos : Pos} (hc : X.calm = true) (h : PGs X es t) (hn : (assignEach es X.env).length = n) (hi : i < n) (hst : (assignEach es X.env).findIdx? (·.1) = some i) : PG X (.Tuple es k pos) (gStar X.K n i t) := by
  refine ⟨fun pins s σ H v u Q I r hw => ?_⟩
  obtain ⟨a, xs, rfl, hq, hl, hz, hw⟩ := hw
  cases r
  obtain ⟨its, rv, pl, _⟩ := I.tuple hq
  obtain ⟨m, F⟩ := I.fr
  have len : its.toArray.size = xs.length := by rw [List.size_toArray, rv.length]
  refine PySem.W.kun_assignT F (news_all (h := s.heap)) pl (I.ok.hd hc) hn hst hi (by omega) (by omega) rfl rfl rfl fun D h' tk F' N' low => ?_
  have keep : ∀ b o, b ≠ X.env.locals → s.heap.get? b = some o → h'.get? b = some o := fun b o ne q => by
    cases z : X.base.get? b with
    | some o' =>
      have := I.bk b o' z
      rw [q] at this
      cases this
      exact F'.keep b _ z
    | none => exact (N' (b, o) (List.mem_cons_of_mem _ (mem_allNews ne z q))).1
  have new : h'.get? D = some (PySem.W.listOf ((its.toArray.toList.drop i).take (its.toArray.size + 1 - n)).toArray 0) := (N' (D, _) List.mem_cons_self).1
  have nL : D ≠ X.env.locals := (N' (D, _) List.mem_cons_self).2.1
  have fresh : s.heap.get? D = none := by
    cases z : s.heap.get? D with
    | none => rfl
    | some o =>
      cases z2 : X.base.get? D with
      | some o2 =>
        have := (N' (D, _) List.mem_cons_self).2.2
        rw [z2] at this
        cases this
      | none => exact absurd (low (D, o) (mem_allNews nL z2 z)) (Nat.lt_irrefl _)
  have hD : H D = none := by
    cases z : H D with
    | none => rfl
    | some o =>
      obtain ⟨ob, q⟩ := (I.hok D o z).there
      rw [fresh] at q
      cases q
  have nel : ∀ c u, H c = some u → c ≠ X.env.locals := fun c u q z => by
    rw [z, I.free] at q
    cases q
  have I2 : Inv X pins σ (upd H D (.lst ((xs.drop i).take (xs.length + 1 - n)))) { s with heap := h', toks := tk } := by
    refine I.step (g' := s.gens) (d' := s.drawn) (t' := tk) (ch := []) (fun _ z => nomatch z) (fun b o ne _ _ q _ => keep b o ne q) (fun b o ne _ _ q _ => ⟨o.slots, keep b o ne q⟩) (fun b o _ q z => ?_) (fun b o _ q => ?_) (fun b ys q => ?_) (fun b o ys q => ?_) (fun b ps q => ⟨#[], ?_⟩) (fun m' hm => ?_) (fun b u q => ?_) I.bare
    · rw [upd_ne (fun (z2 : b = D) => by rw [z2, fresh] at q; cases q)]
      exact z
    · by_cases z : b = X.env.locals
      · obtain ⟨ol, _, _, e, _⟩ := F'.ns
        exact ⟨ol, by rw [z]; exact e⟩
      · exact ⟨o, keep b o z q⟩
    · rw [upd_ne (ne_of_none q hD)]
      exact q
    · rw [upd_ne (ne_of_none q hD)]
      exact q
    · rw [upd_ne (ne_of_none q hD), q]
      simp
    · rw [ns_same hm F.ns]
      exact F'.ns
    · by_cases z : b = D
      · subst z
        rw [upd_same] at q
        cases q
        refine ⟨?_, (its.drop i).take (xs.length + 1 - n), 0, (rv.drop i).take _, ?_⟩
        · rw [List.length_take, List.length_drop, sizeLine_eq]
          omega
        · rw [new]
          simp only [PySem.W.listOf, len]
      · rw [upd_ne z] at q
        refine (I.hok b u q).stay (fun c v hc e => keep c v ?_ e) (fun c e => by rw [upd_ne (ne_of_none e hD)]; exact e) fun c ys e => by rw [upd_ne (ne_of_none e hD)]; exact e
        rcases hc with rfl | hc
        · exact nel _ _ q
        · exact nel _ _ hc
  refine h.run pins _ σ _ _ _ Q I2 ?_ (hw D hD)
  have r1 : Vals (xs.take i) (its.take i) := rv.take i
  have r2 : Vals ((xs.drop i).drop (xs.length + 1 - n)) ((its.drop i).drop (xs.length + 1 - n)) := (rv.drop i).drop _
  have e1 : its.toArray.toList = its := by simp
  rw [e1, len]
  have r3 : Vals [V.ref D] [Value.ref D] := .cons (show Value.ref D = Value.ref D from rfl) .nil
  exact (r1.append r3).append r2
end L2

namespace Ly
open PySem PySem.Spec PyProof.Rows L2
def GlS (sc : Scope) (x : Str) : Prop := sc.names.lookup x = some NameKind.globalImplicit
theorem Cq.gl {G : Gd} {k : Nat} {E : XK} {N : List Str} {sc : Scope} {X : Cx} {x : Str} (c : Cq G k E N sc X) (h : GlS sc x) : Gl X x := by
  show X.env.scope.names.lookup x = _
  rw [c.scq]
  exact h
/-! ### what is walked, over data -/
section
variable {K : PySem.W.Frag} {L : Wd} {H : Hp} {a : Addr} {ds : List D} {chk : Mem → Prop}
theorem it_list (h : ∀ L' H' M', Mv L H L' H' → MemIs K L' H' M' → chk M' → ∃ vs, SqL K H' a vs ∧ IsL K L' H' ds vs) : ItIs K L H ⟨ds, chk⟩ (Itl K a) := fun L' H' M' mv m c i => by
  obtain ⟨vs, q, r⟩ := h L' H' M' mv m c
  refine ⟨fun d e => ?_, fun hl => ⟨vs, q, by rw [← r.length]; exact Nat.le_of_eq hl⟩⟩
  obtain ⟨v, e1, r1⟩ := r.get e
  refine ⟨⟨vs, v, q, e1⟩, fun x H'' y => ?_⟩
  obtain ⟨rfl, y⟩ := y
  have := y vs q
  rw [e1] at this
  cases this
  exact ⟨Step.refl, m, r1⟩
theorem it_tup (h : ∀ L' H' M', Mv L H L' H' → MemIs K L' H' M' → chk M' → ∃ vs, SqT K H' a vs ∧ IsL K L' H' ds vs) : ItIs K L H ⟨ds, chk⟩ (Itt K a) := fun L' H' M' mv m c i => by
  obtain ⟨vs, q, r⟩ := h L' H' M' mv m c
  refine ⟨fun d e => ?_, fun hl => ⟨vs, q, by rw [← r.length]; exact Nat.le_of_eq hl⟩⟩
  obtain ⟨v, e1, r1⟩ := r.get e
  refine ⟨⟨vs, v, q, e1⟩, fun x H'' y => ?_⟩
  obtain ⟨rfl, y⟩ := y
  have := y vs q
  rw [e1] at this
  cases this
  exact ⟨Step.refl, m, r1⟩
def numbered (ds : List D) : List D := ds.zipIdx.map fun p => .tup [.int (p.2 : Nat), p.1]
theorem numbered_at {ds : List D} {i : Nat} {d : D} (h : (numbered ds)[i]? = some d) : ∃ e, ds[i]? = some e ∧ d = .tup [.int (i : Nat), e] := by
  unfold numbered at h
  rw [List.getElem?_map] at h
  obtain ⟨p, hp, rfl⟩ := Option.map_eq_some_iff.mp h
  rw [List.getElem?_zipIdx] at hp
  obtain ⟨e, he, rfl⟩ := Option.map_eq_some_iff.mp hp
  exact ⟨e, he, by simp⟩
theorem numbered_len (ds : List D) : (numbered ds).length = ds.length := by simp [numbered]
theorem it_enum (h : ∀ L' H' M', Mv L H L' H' → MemIs K L' H' M' → chk M' → ∃ vs, SqL K H' a vs ∧ IsL K L' H' ds vs) : ItIs K L H ⟨numbered ds, chk⟩ (Ite K a) := fun L' H' M' mv m c i => by
  obtain ⟨vs, q, r⟩ := h L' H' M' mv m c
  refine ⟨fun d e => ?_, fun hl => ⟨vs, q, by rw [← r.length, ← numbered_len]; exact Nat.le_of_eq hl⟩⟩
  obtain ⟨d', e0, rfl⟩ := numbered_at e
  obtain ⟨v, e1, r1⟩ := r.get e0
  refine ⟨⟨vs, v, q, e1⟩, fun x H'' y => ?_⟩
  obtain ⟨T, w, rfl, hT, rfl, y⟩ := y
  have := y vs q
  rw [e1] at this
  cases this
  have st := Step.new (o := .tup [.int (i : Nat), v]) m hT
  exact ⟨st.1, m.new hT, .tup (.inl upd_same) st.2 (.cons (.int _) (.cons (r1.step st.1) .nil))⟩
theorem it_enumT (h : ∀ L' H' M', Mv L H L' H' → MemIs K L' H' M' → chk M' → ∃ vs, SqT K H' a vs ∧ IsL K L' H' ds vs) : ItIs K L H ⟨numbered ds, chk⟩ (ItET K a) := fun L' H' M' mv m c i => by
  obtain ⟨vs, q, r⟩ := h L' H' M' mv m c
  refine ⟨fun d e => ?_, fun hl => ?_⟩
  · obtain ⟨d', e0, rfl⟩ := numbered_at e
    obtain ⟨v, e1, r1⟩ := r.get e0
    refine ⟨⟨vs, v, q, e1⟩, fun x H'' y => ?_⟩
    obtain ⟨T, w, rfl, hT, rfl, y⟩ := y
    have := y vs q
    rw [e1] at this
    cases this
    have st := Step.new (o := .tup [.int (i : Nat), v]) m hT
    exact ⟨st.1, m.new hT, .tup (.inl upd_same) st.2 (.cons (.int _) (.cons (r1.step st.1) .nil))⟩
  · rw [← hl]
    exact ⟨vs, q, by rw [← r.length]; exact (numbered_len ds).symm⟩
/-- what a walk over d goes through, and when it may go on -/
def itemsOf (d : D) (M : Mem) : Option Itm := match d with
  | .str z => some ⟨z.cps.toList.map fun c => .str ⟨#[c]⟩, fun _ => True⟩
  | .tup ds => some ⟨ds, fun _ => True⟩
  | .lst ds => some ⟨ds, fun _ => True⟩
  | .scr ds => some ⟨ds, fun _ => True⟩
  | .ref n => (match M[n]? with
    | some (.lst ds) => some ⟨ds, fun M' => M'[n]? = some (.lst ds)⟩
    | _ => none)
  | _ => none
end
section
variable {K : PySem.W.Frag} {L : Wd} {H : Hp} {M : Mem} {d : D} {v : V} {t : Itm}
/-- how a sequence that is walked stands -/
inductive Sq3 (K : PySem.W.Frag) (L : Wd) (H : Hp) (t : Itm) : V → Prop
  | lst {a : Addr} : (∃ xs, SqL K H a xs) → (∀ L' H' M', Mv L H L' H' → MemIs K L' H' M' → t.chk M' → ∃ vs, SqL K H' a vs ∧ IsL K L' H' t.items vs) → Sq3 K L H t (.ref a)
  | tup {a : Addr} : (∃ xs, SqT K H a xs) → (∀ L' H' M', Mv L H L' H' → MemIs K L' H' M' → t.chk M' → ∃ vs, SqT K H' a vs ∧ IsL K L' H' t.items vs) → Sq3 K L H t (.ref a)
  | str {z : Str} : t.items = z.cps.toList.map (fun c => D.str ⟨#[c]⟩) → Sq3 K L H t (.str z)
theorem itemsOf_ok (m : MemIs K L H M) (r : Is K L H d v) (h : itemsOf d M = some t) : Sq3 K L H t v := by
  unfold itemsOf at h
  split at h
  · cases h
    cases r
    exact .str rfl
  · cases h
    obtain ⟨a, vs, rfl, q, r1⟩ := r.tup_inv
    refine .tup ⟨vs, q⟩ fun L' H' M' mv m' _ => ?_
    obtain ⟨a', ws, e, q', r'⟩ := (r.mv mv).tup_inv
    cases e
    exact ⟨ws, q', r'⟩
  · cases h
    obtain ⟨a, vs, rfl, q, _, r1⟩ := r.lst_inv
    refine .lst ⟨vs, .inl (.inl q)⟩ fun L' H' M' mv m' _ => ?_
    obtain ⟨a', ws, e, q', _, r'⟩ := (r.mv mv).lst_inv
    cases e
    exact ⟨ws, .inl (.inl q'), r'⟩
  · cases h
    obtain ⟨a, vs, rfl, q, r1⟩ := r.scr_inv
    refine .lst ⟨vs, q⟩ fun L' H' M' mv m' _ => ?_
    obtain ⟨a', ws, e, q', r'⟩ := (r.mv mv).scr_inv
    cases e
    exact ⟨ws, q', r'⟩
  · rename_i n
    split at h
    · rename_i ds q
      cases h
      obtain ⟨a, rfl, hn⟩ := ref_inv r
      obtain ⟨vs, q1, r1⟩ := m.cell n a _ hn q
      refine .lst ⟨vs, .inl (.inl q1)⟩ fun L' H' M' mv m' c => ?_
      obtain ⟨ws, q2, r2⟩ := m'.cell n a _ (mv.get n a hn) c
      exact ⟨ws, .inl (.inl q2), r2⟩
    · cases h
  · cases h
theorem it_str {z : Str} {chk : Mem → Prop} : ItIs K L H ⟨z.cps.toList.map (fun c => D.str ⟨#[c]⟩), chk⟩ (Its z) := fun L' H' M' mv m c i => by
  refine ⟨fun d e => ?_, fun hl => ?_⟩
  · rw [List.getElem?_map] at e
    obtain ⟨c, hc, rfl⟩ := Option.map_eq_some_iff.mp e
    have hc' : z.cps[i]? = some c := by simpa using hc
    refine ⟨(Array.getElem?_eq_some_iff.mp hc').1, fun x H'' y => ?_⟩
    obtain ⟨rfl, c2, h2, rfl⟩ := y
    rw [hc'] at h2
    cases h2
    exact ⟨Step.refl, m, .str _⟩
  · show z.cps.size ≤ i
    rw [← hl]
    simp
theorem it_range {lo : Int} {n : Nat} {chk : Mem → Prop} : ItIs K L H ⟨(List.range n).map fun i => .int (lo + (i : Nat)), chk⟩ (Itr lo n) := fun L' H' M' mv m c i => by
  refine ⟨fun d e => ?_, fun hl => ?_⟩
  · rw [List.getElem?_map] at e
    obtain ⟨k, hk, rfl⟩ := Option.map_eq_some_iff.mp e
    obtain ⟨h1, h2⟩ := List.getElem?_eq_some_iff.mp hk
    rw [List.getElem_range] at h2
    subst h2
    refine ⟨show i < n by simpa using h1, fun x H'' y => ?_⟩
    obtain ⟨rfl, rfl⟩ := y
    exact ⟨Step.refl, m, .int _⟩
  · show n ≤ i
    rw [← hl]
    simp
theorem it_rangeC {lo c : Int} {n : Nat} {chk : Mem → Prop} : ItIs K L H ⟨(List.range n).map fun i => .int (lo + (i : Nat) * c), chk⟩ (Itc lo c n) := fun L' H' M' mv m _ i => by
  refine ⟨fun d e => ?_, fun hl => ?_⟩
  · rw [List.getElem?_map] at e
    obtain ⟨k, hk, rfl⟩ := Option.map_eq_some_iff.mp e
    obtain ⟨h1, h2⟩ := List.getElem?_eq_some_iff.mp hk
    rw [List.getElem_range] at h2
    subst h2
    refine ⟨show i < n by simpa using h1, fun x H'' y => ?_⟩
    obtain ⟨rfl, rfl⟩ := y
    exact ⟨Step.refl, m, .int _⟩
  · show n ≤ i
    rw [← hl]
    simp
end
section
variable {G : Gd} {k : Nat} {E : XK} {N : List Str} {sc : Scope} {X : Cx} {a b e o tg : Expr} {es : List Expr} {ma mb mo : ME} {mr : MA} {pos p p2 tpos : Pos}
def mIter (ma : ME) : MI := fun env M => (ma env M).bind fun d M1 => match itemsOf d M1 with
  | some t => .ok t M1
  | none => .bad
theorem ci_any (c : Cq G k E N sc X) (ha : PE X a (tD G.K E ma)) : PI X tg a (tID G.K E (mIter ma)) := by
  obtain rfl := c.g
  refine (pi_any ha).imp fun σ H R ⟨env, L, M, he, hm, h⟩ => ?_
  refine ⟨env, L, M, he, hm, Fin.imp (Fin.bind h) fun x H1 ⟨d, M1, L1, s1, m1, r1, h1⟩ => ?_⟩
  cases q : itemsOf d M1 with
  | none =>
    rw [q] at h1
    exact h1.elim
  | some t =>
    rw [q] at h1
    cases itemsOf_ok m1 r1 q with
    | lst ex go => exact .inl ⟨_, rfl, ex, h1.end_ m1 (it_list go)⟩
    | tup ex go => exact .inr (.inl ⟨_, rfl, ex, h1.end_ m1 (it_tup go)⟩)
    | str es =>
      obtain ⟨its, chk⟩ := t
      cases es
      exact .inr (.inr ⟨_, rfl, h1.end_ m1 it_str⟩)
def enumOf (d : D) (M : Mem) : Option Itm := match d with
  | .str _ => none
  | d => (itemsOf d M).map fun t => ⟨numbered t.items, t.chk⟩
def mEnum (ma : ME) : MI := fun env M => (ma env M).bind fun d M1 => match enumOf d M1 with
  | some t => .ok t M1
  | none => .bad
theorem ci_enum {elts : List Expr} {kk : Nat} (c : Cq G k E N sc X) (hg : GlS sc "enumerate") (hm : G.mg "enumerate" = none) (ha : PE X a (tD G.K E ma)) (hs : starEach [a] X.env = [(false, eval a X.env)] := by rfl) :
    PI X (.Tuple elts kk tpos) (.Call (.Name "enumerate" p) [a] [] pos) (tID G.K E (mEnum ma)) := by
  obtain rfl := c.g
  refine (pi_enumA (c.gl hg) hm (ca_cons (G := gdOf X) (E := E) ha ca_nil hs) hs).imp fun σ H R ⟨env, L, M, he, hm, h⟩ => ?_
  refine ⟨env, L, M, he, hm, ?_⟩
  unfold mCons
  have h' : Fin (ItIs (gdOf X).K) (gdOf X).K E L H ((ma env M).bind fun d M1 => match enumOf d M1 with | some t => .ok t M1 | none => .bad) R := h
  cases q : ma env M with
  | bad =>
    rw [q] at h'
    exact h'
  | exc x M1 =>
    rw [q] at h'
    exact h'
  | ok d M1 =>
    rw [q] at h'
    intro L1 H1 vs s1 m1 rl
    cases rl with
    | cons r1 r2 =>
      cases r2
      have h1 := h'.step s1
      cases q2 : enumOf d M1 with
      | none =>
        rw [show ((Res.ok d M1).bind fun d M1 => match enumOf d M1 with | some t => Res.ok t M1 | none => Res.bad) = (match enumOf d M1 with | some t => Res.ok t M1 | none => Res.bad) from rfl, q2] at h1
        exact h1.elim
      | some t =>
        rw [show ((Res.ok d M1).bind fun d M1 => match enumOf d M1 with | some t => Res.ok t M1 | none => Res.bad) = (match enumOf d M1 with | some t => Res.ok t M1 | none => Res.bad) from rfl, q2] at h1
        unfold enumOf at q2
        split at q2
        · cases q2
        · rename_i ns
          obtain ⟨t0, h0, rfl⟩ := Option.map_eq_some_iff.mp q2
          cases itemsOf_ok m1 r1 h0 with
          | lst ex go => exact .inl (let ⟨xs, q⟩ := ex; ⟨_, xs, rfl, q, h1.end_ m1 (it_enum go)⟩)
          | tup ex go => exact .inr (let ⟨xs, q⟩ := ex; ⟨_, xs, rfl, q, h1.end_ m1 (it_enumT go)⟩)
          | str es =>
            cases r1
            exact (ns _ rfl).elim
/-! ranges -/
def rngOk (i : Int) : Prop := -(2 ^ 62) ≤ i ∧ i < 2 ^ 62
open Classical in
noncomputable def rng1 (ds : List D) (M : Mem) : Res Itm := match ds with
  | [.int j] => if rngOk j then .ok ⟨(List.range j.toNat).map fun i => .int (0 + (i : Nat)), fun _ => True⟩ M else .bad
  | _ => .bad
open Classical in
noncomputable def rng2 (ds : List D) (M : Mem) : Res Itm := match ds with
  | [.int i, .int j] => if rngOk i ∧ rngOk j then .ok ⟨(List.range (j - i).toNat).map fun n => .int (i + (n : Nat)), fun _ => True⟩ M else .bad
  | _ => .bad
/- downwards -/
open Classical in
noncomputable def rng3 (ds : List D) (M : Mem) : Res Itm := match ds with
  | [.int i, .int j, .int c] => if rngOk i ∧ rngOk j ∧ c = -1 then .ok ⟨(List.range (i - j).toNat).map fun n => .int (i + (n : Nat) * -1), fun _ => True⟩ M else .bad
  | _ => .bad
def mRng (f : List D → Mem → Res Itm) (mr : MA) : MI := fun env M => (mr env M).bind fun ds M1 => f ds M1
theorem ci_range1 (c : Cq G k E N sc X) (hg : GlS sc "range") (hm : G.mg "range" = none) (ha : PA X [a] (tAD G.K E mr)) (hs : starEach [a] X.env = [(false, eval a X.env)] := by rfl) :
    PI X tg (.Call (.Name "range" p) [a] [] pos) (tID G.K E (mRng rng1 mr)) := by
  obtain rfl := c.g
  refine (pi_range1 (c.gl hg) hm ha hs).imp fun σ H R ⟨env, L, M, he, hm, h⟩ => ?_
  refine ⟨env, L, M, he, hm, Fin.imp (Fin.bind h) fun vs H1 ⟨ds, M1, L1, s1, m1, r1, h1⟩ => ?_⟩
  unfold rng1 at h1
  split at h1
  · split at h1
    · rename_i ok
      cases r1 with
      | cons r1 r2 =>
        cases r2
        cases r1
        exact ⟨_, rfl, ok.1, ok.2, h1.end_ m1 it_range⟩
    · exact h1.elim
  · exact h1.elim
theorem ci_range2 (c : Cq G k E N sc X) (hg : GlS sc "range") (hm : G.mg "range" = none) (ha : PA X [a, b] (tAD G.K E mr)) (hs : starEach [a, b] X.env = [(false, eval a X.env), (false, eval b X.env)] := by rfl) (hs2 : starEach [b] X.env = [(false, eval b X.env)] := by rfl) :
    PI X tg (.Call (.Name "range" p) [a, b] [] pos) (tID G.K E (mRng rng2 mr)) := by
  obtain rfl := c.g
  refine (pi_range2 (c.gl hg) hm ha hs hs2).imp fun σ H R ⟨env, L, M, he, hm, h⟩ => ?_
  refine ⟨env, L, M, he, hm, Fin.imp (Fin.bind h) fun vs H1 ⟨ds, M1, L1, s1, m1, r1, h1⟩ => ?_⟩
  unfold rng2 at h1
  split at h1
  · split at h1
    · rename_i ok
      cases r1 with
      | cons r1 r2 =>
        cases r2 with
        | cons r2 r3 =>
          cases r3
          cases r1
          cases r2
          exact ⟨_, _, rfl, ⟨ok.1.1, ok.1.2, ok.2.1, ok.2.2⟩, h1.end_ m1 it_range⟩
    · exact h1.elim
  · exact h1.elim
theorem ci_range3 {d : Expr} (c : Cq G k E N sc X) (hg : GlS sc "range") (hm : G.mg "range" = none) (ha : PA X [a, b, d] (tAD G.K E mr)) (hs : starEach [a, b, d] X.env = (false, eval a X.env) :: starEach [b, d] X.env := by rfl) (hpl : (backTo pos (starEach [b, d] X.env)).any (·.1) = false := by rfl) :
    PI X tg (.Call (.Name "range" p) [a, b, d] [] pos) (tID G.K E (mRng rng3 mr)) := by
  obtain rfl := c.g
  refine (pi_range3 (c.gl hg) hm ha hs hpl).imp fun σ H R ⟨env, L, M, he, hm, h⟩ => ?_
  refine ⟨env, L, M, he, hm, Fin.imp (Fin.bind h) fun vs H1 ⟨ds, M1, L1, s1, m1, r1, h1⟩ => ?_⟩
  unfold rng3 at h1
  split at h1
  · split at h1
    · rename_i ok
      cases r1 with
      | cons r1 r2 =>
        cases r2 with
        | cons r2 r3 =>
          cases r3 with
          | cons r3 r4 =>
            cases r4
            cases r1
            cases r2
            cases r3
            obtain ⟨o1, o2, rfl⟩ := ok
            exact ⟨_, _, _, _, rfl, RgC.neg o1.1 o1.2 o2.1 o2.2, h1.end_ m1 it_rangeC⟩
    · exact h1.elim
  · exact h1.elim
/-! a, b, *c = a tuple -/
def gStarF (n i : Nat) (gs : List GD) (d : D) (env : Env) : Option Env := match d with
  | .tup ds => if n ≤ ds.length + 1 ∧ ds.length ≤ 16384 then gTs gs (ds.take i ++ [.lst ((ds.drop i).take (ds.length + 1 - n))] ++ (ds.drop i).drop (ds.length + 1 - n)) env else none
  | _ => none
def gStarD (n i : Nat) (gs : List GD) : GD := ⟨gStarF n i gs, slots gs⟩
theorem cgs_star {g : GD} {gs : List GD} {sp : Pos} (h1 : PG X e (gtD G.K g)) (h2 : PGs X es (gsD G.K gs)) : PGs X (.Starred e sp :: es) (gsD G.K (g :: gs)) := by
  refine ⟨fun pins s σ H vs us Q I r ⟨env, L, M, ds, env', he, hm, rl, q, h⟩ => (pgs_star h1 h2).run pins s σ H vs us Q I r ?_⟩
  cases rl with
  | nil => cases q
  | @cons d v ds vs r1 rs =>
    have q' : (g.f d env).bind (fun env' => gTs gs ds env') = some env' := q
    obtain ⟨env1, ge, q'⟩ := Option.bind_eq_some_iff.mp q'
    exact ⟨v, vs, rfl, env, L, M, d, env1, he, hm, r1, ge, fun H1 σ' s1 m1 e1 c1 => ⟨env1, L, M, ds, env', e1, m1, rs.step s1, q', fun H2 σ2 s2 m2 e2 c2 => h H2 σ2 (s1.trans s2) m2 e2 (c1.trans c2)⟩⟩
theorem cg_star {gs : List GD} {kk n i : Nat} (c : Cq G k E N sc X) (h : PGs X es (gsD G.K gs)) (hn : (assignEach es X.env).length = n := by rfl) (hi : i < n := by decide) (hst : (assignEach es X.env).findIdx? (·.1) = some i := by rfl) : PG X (.Tuple es kk pos) (gtD G.K (gStarD n i gs)) := by
  obtain rfl := c.g
  refine (pg_star c.calm h hn hi hst).imp fun v σ H Q ⟨env, L, M, d, env', he, hm, r, q, h⟩ => ?_
  replace q : gStarF n i gs d env = some env' := q
  unfold gStarF at q
  split at q
  · rename_i ds
    split at q
    · rename_i ok
      obtain ⟨a, vs, rfl, hq, rl⟩ := r.tup_inv
      have len := rl.length
      refine ⟨a, vs, rfl, hq, by omega, by omega, fun p hp => ?_⟩
      have st := Step.new (o := .lst ((vs.drop i).take (vs.length + 1 - n))) hm hp
      refine ⟨env, L, M, _, env', he.step st.1, hm.new hp, ?_, q, fun H2 σ2 s2 m2 e2 c2 => h H2 σ2 (st.1.trans s2) m2 e2 c2⟩
      rw [len]
      exact (((rl.take i).step st.1).append (.cons (.lst upd_same st.2 (((rl.drop i).take _).step st.1)) .nil)).append (((rl.drop i).drop _).step st.1)
    · cases q
  · cases q
end
end Ly

namespace Ly
open PySem PySem.Spec PyProof.Rows L2
/-! ### built-in functions over data -/
def fLen : MF := fun ds M => match ds with
  | [.str z] => if szOk z.length then .ok (.int (z.length : Nat)) M else .bad
  | [d] => (match dicOf d M with
    | some kvs => .ok (.int (kvs.length : Nat)) M
    | none => (match seqOf d M with
      | some xs => .ok (.int (xs.length : Nat)) M
      | none => .bad))
  | _ => .bad
def rLenA (K : PySem.W.Frag) : List V → Hp → VK → Prop := fun xs H Q => ((∃ p ys, xs = [.ref p] ∧ (SqL K H p ys ∨ SqT K H p ys) ∧ Q (.int ys.length) H) ∨ (∃ a kvs, xs = [V.ref a] ∧ H a = some (.dK kvs) ∧ Q (.int kvs.length) H)) ∨ ∃ x n, xs = [x] ∧ LenV K x H n ∧ Q (.int n) H
theorem call_lenA {X : Cx} : CallR X (.builtin "len") (rLenA X.K) := (call_len_seq.or call_lenD).or call_len
theorem one_inv {K : PySem.W.Frag} {L : Wd} {H : Hp} {d : D} {xs : List V} (r : IsL K L H [d] xs) : ∃ v, xs = [v] ∧ Is K L H d v := by
  cases r with
  | cons a b =>
    cases b
    exact ⟨_, rfl, a⟩
theorem two_inv {K : PySem.W.Frag} {L : Wd} {H : Hp} {d e : D} {xs : List V} (r : IsL K L H [d, e] xs) : ∃ v w, xs = [v, w] ∧ Is K L H d v ∧ Is K L H e w := by
  cases r with
  | cons a b =>
    obtain ⟨w, rfl, c⟩ := one_inv b
    exact ⟨_, w, rfl, a, c⟩
theorem rs_len {K : PySem.W.Frag} : RSC K (rLenA K) fLen := by
  intro E L H M ds xs Q m rl h
  unfold fLen at h
  split at h
  · obtain ⟨v, rfl, r⟩ := one_inv rl
    split at h
    · rename_i hz
      cases r
      exact .inr ⟨_, _, rfl, ⟨szOk.le hz, rfl⟩, h.end_ m (.int _)⟩
    · exact h.elim
  · obtain ⟨v, rfl, r⟩ := one_inv rl
    split at h
    · rename_i kvs hd
      obtain ⟨a, kws, rfl, q, rk⟩ := dicOf_ok m r hd
      exact .inl (.inr ⟨a, kws, rfl, q, by rw [← rk.length]; exact h.end_ m (.int _)⟩)
    · split at h
      · rename_i ys hs
        obtain ⟨a, vs, rfl, q, rk⟩ := seqOf_ok m r hs
        exact .inl (.inl ⟨a, vs, rfl, q, by rw [← rk.length]; exact h.end_ m (.int _)⟩)
      · exact h.elim
  · exact h.elim
/-- the built-in class of a thing -/
def tyName (d : D) (M : Mem) : Option String := match d with
  | .non => some "NoneType"
  | .bl _ => some "bool"
  | .int _ => some "int"
  | .str _ => some "str"
  | .tup _ => some "tuple"
  | .lst _ => some "list"
  | .scr _ => some "list"
  | .dic _ => some "dict"
  | .ref n => (match M[n]? with
    | some (.lst _) => some "list"
    | some (.dic _) => some "dict"
    | _ => none)
  | _ => none
def fIsi : MF := fun ds M => match ds with
  | [d, .ty n] => (match (tyName d M).bind fun t => kitB t n with
    | some b => .ok (.bl b) M
    | none => .bad)
  | _ => .bad
theorem ty_tup {K : PySem.W.Frag} {H : Hp} {a : Addr} {vs : List V} (q : SqT K H a vs) : TyX K H (.ref a) (.type "tuple") := by
  rcases q with (q | ⟨o, q⟩) | ⟨o, its, n, q, c, _⟩
  · exact .base (.tup q)
  · exact .fTuple q
  · exact .kTuple q c
theorem ty_lst' {K : PySem.W.Frag} {H : Hp} {a : Addr} {vs : List V} (q : SqL K H a vs) : TyX K H (.ref a) (.type "list") := by
  rcases q with (q | ⟨o, q⟩) | ⟨o, its, n, q, c, _⟩
  · exact .base (.lst q)
  · exact .base (.frz q)
  · exact .kList q c
theorem tyName_ok {K : PySem.W.Frag} {L : Wd} {H : Hp} {M : Mem} {d : D} {v : V} {t : String} (m : MemIs K L H M) (r : Is K L H d v) (h : tyName d M = some t) : TyX K H v (.type t) := by
  unfold tyName at h
  split at h
  · cases h; cases r; exact .base .non
  · cases h; cases r; exact .base (.bl _)
  · cases h; cases r; exact .base (.int _)
  · cases h; cases r; exact .base (.str _)
  · cases h
    obtain ⟨a, vs, rfl, q, _⟩ := r.tup_inv
    exact ty_tup q
  · cases h
    obtain ⟨a, vs, rfl, q, _⟩ := r.lst_inv
    exact .base (.lst q)
  · cases h
    obtain ⟨a, vs, rfl, q, _⟩ := r.scr_inv
    exact ty_lst' q
  · cases h
    cases r with
    | dic q _ _ => exact .base (.dK q)
  · obtain ⟨a, rfl, hn⟩ := ref_inv r
    split at h
    · rename_i q
      cases h
      obtain ⟨vs, q1, _⟩ := m.cell _ a _ hn q
      exact .base (.lst q1)
    · rename_i q
      cases h
      obtain ⟨vs, q1, _⟩ := m.cell _ a _ hn q
      exact .base (.dK q1)
    · cases h
  · cases h
theorem rs_isi {K : PySem.W.Frag} : RSC K (rIsi K) fIsi := by
  intro E L H M ds xs Q m rl h
  unfold fIsi at h
  split at h
  · obtain ⟨v, w, rfl, r1, r2⟩ := two_inv rl
    split at h
    · rename_i b hb
      obtain ⟨t, h1, h2⟩ := Option.bind_eq_some_iff.mp hb
      cases r2
      exact ⟨v, _, .type t, _, b, rfl, .ty _, tyName_ok m r1 h1, kit_ty h2, h.end_ m (.bl _)⟩
    · exact h.elim
  · exact h.elim
def fTuple : MF := fun ds M => match ds with
  | [.tup xs] => .ok (.tup xs) M
  | [d] => (match lstOf d M with
    | some xs => .ok (.tup xs) M
    | none => .bad)
  | _ => .bad
theorem rs_tuple {K : PySem.W.Frag} : RSC K (fun xs H Q => ∃ p ys, xs = [.ref p] ∧ ((SqL K H p ys ∧ ∀ l, H l = none → Q (.ref l) (upd H l (.tup ys))) ∨ (SqT K H p ys ∧ Q (.ref p) H))) fTuple := by
  intro E L H M ds xs Q m rl h
  unfold fTuple at h
  split at h
  · obtain ⟨v, rfl, r⟩ := one_inv rl
    obtain ⟨a, vs, rfl, q, _⟩ := r.tup_inv
    exact ⟨a, vs, rfl, .inr ⟨q, h.end_ m r⟩⟩
  · obtain ⟨v, rfl, r⟩ := one_inv rl
    split at h
    · rename_i ys hs
      obtain ⟨a, vs, rfl, q, rk⟩ := lstOf_ok m r hs
      exact ⟨a, vs, rfl, .inl ⟨q, new_tup m rk h⟩⟩
    · exact h.elim
  · exact h.elim
def fList : MF := fun ds M => match ds with
  | [d] => (match seqOf d M with
    | some xs => .ok (.lst xs) M
    | none => .bad)
  | _ => .bad
def fListC : MF := fun ds M => match ds with
  | [d] => (match seqOf d M with
    | some xs => .ok (.ref M.length) (M ++ [.lst xs])
    | none => .bad)
  | _ => .bad
def rListA (K : PySem.W.Frag) : List V → Hp → VK → Prop := fun xs H Q => ∃ p ys, xs = [.ref p] ∧ (SqL K H p ys ∨ SqT K H p ys) ∧ ∀ l, H l = none → Q (.ref l) (upd H l (.lst ys))
theorem call_listA {X : Cx} : CallR X (.type "list") (rListA X.K) := call_list_of
theorem rs_list {K : PySem.W.Frag} : RSC K (rListA K) fList := by
  intro E L H M ds xs Q m rl h
  unfold fList at h
  split at h
  · obtain ⟨v, rfl, r⟩ := one_inv rl
    split at h
    · rename_i ys hs
      obtain ⟨a, vs, rfl, q, rk⟩ := seqOf_ok m r hs
      exact ⟨a, vs, rfl, q, new_lst m rk h⟩
    · exact h.elim
  · exact h.elim
theorem rs_listC {K : PySem.W.Frag} : RSC K (rListA K) fListC := by
  intro E L H M ds xs Q m rl h
  unfold fListC at h
  split at h
  · obtain ⟨v, rfl, r⟩ := one_inv rl
    split at h
    · rename_i ys hs
      obtain ⟨a, vs, rfl, q, rk⟩ := seqOf_ok m r hs
      exact ⟨a, vs, rfl, q, new_lstC m rk h⟩
    · exact h.elim
  · exact h.elim
def blsOf : List D → Option (List Bool)
  | [] => some []
  | .bl x :: ds => (blsOf ds).map fun xs => x :: xs
  | _ => none
theorem blsOf_ok {K : PySem.W.Frag} {L : Wd} {H : Hp} : ∀ {ds : List D} {vs : List V} {xs : List Bool}, IsL K L H ds vs → blsOf ds = some xs → vs = xs.map V.bl
  | _, _, _, .nil, h => by cases h; rfl
  | _, _, _, .cons a b, h => by
    cases a <;> first | (cases (show (none : Option (List Bool)) = some _ from h)) | skip
    obtain ⟨ys, e, rfl⟩ := Option.map_eq_some_iff.mp h
    rw [blsOf_ok b e]
    rfl
def intsOf : List D → Option (List Int)
  | [] => some []
  | .int x :: ds => (intsOf ds).map fun xs => x :: xs
  | _ => none
theorem intsOf_ok {K : PySem.W.Frag} {L : Wd} {H : Hp} : ∀ {ds : List D} {vs : List V} {xs : List Int}, IsL K L H ds vs → intsOf ds = some xs → vs = xs.map V.int
  | _, _, _, .nil, h => by cases h; rfl
  | _, _, _, .cons a b, h => by
    cases a <;> first | (cases (show (none : Option (List Int)) = some _ from h)) | skip
    obtain ⟨ys, e, rfl⟩ := Option.map_eq_some_iff.mp h
    rw [intsOf_ok b e]
    rfl
def fBools (g : List Bool → Bool) : MF := fun ds M => match ds with
  | [d] => (match (lstOf d M).bind blsOf with
    | some bs => .ok (.bl (g bs)) M
    | none => .bad)
  | _ => .bad
def fSum : MF := fun ds M => match ds with
  | [d] => (match (lstOf d M).bind intsOf with
    | some ns => .ok (.int ns.sum) M
    | none => .bad)
  | _ => .bad
theorem rs_bools {K : PySem.W.Frag} {g : List Bool → Bool} : RSC K (fun vs H Q => ∃ (a : Addr) (bs : List Bool), vs = [V.ref a] ∧ SqL K H a (bs.map V.bl) ∧ Q (.bl (g bs)) H) (fBools g) := by
  intro E L H M ds xs Q m rl h
  unfold fBools at h
  split at h
  · obtain ⟨v, rfl, r⟩ := one_inv rl
    split at h
    · rename_i bs hs
      obtain ⟨es, h1, h2⟩ := Option.bind_eq_some_iff.mp hs
      obtain ⟨a, vs, rfl, q, rk⟩ := lstOf_ok m r h1
      obtain rfl := blsOf_ok rk h2
      exact ⟨a, bs, rfl, q, h.end_ m (.bl _)⟩
    · exact h.elim
  · exact h.elim
theorem rs_any {K : PySem.W.Frag} : RSC K (rAny K) (fBools fun bs => bs.any id) := rs_bools
theorem rs_all {K : PySem.W.Frag} : RSC K (rAll K) (fBools fun bs => bs.all id) := rs_bools
theorem rs_sum {K : PySem.W.Frag} : RSC K (rSum K) fSum := by
  intro E L H M ds xs Q m rl h
  unfold fSum at h
  split at h
  · obtain ⟨v, rfl, r⟩ := one_inv rl
    split at h
    · rename_i bs hs
      obtain ⟨es, h1, h2⟩ := Option.bind_eq_some_iff.mp hs
      obtain ⟨a, vs, rfl, q, rk⟩ := lstOf_ok m r h1
      obtain rfl := intsOf_ok rk h2
      exact ⟨a, bs, rfl, q, h.end_ m (.int _)⟩
    · exact h.elim
  · exact h.elim
def fInt1 : MF := fun ds M => match ds with
  | [.int i] => .ok (.int i) M
  | [.bl b] => .ok (.int (if b then 1 else 0)) M
  | _ => .bad
theorem rs_int1 {K : PySem.W.Frag} : RSC K (fun xs H Q => (∃ i, xs = [.int i] ∧ Q (.int i) H) ∨ ∃ k, xs = [.bl k] ∧ Q (.int (if k then 1 else 0)) H) fInt1 := by
  intro E L H M ds xs Q m rl h
  unfold fInt1 at h
  split at h
  · obtain ⟨v, rfl, r⟩ := one_inv rl
    cases r
    exact .inl ⟨_, rfl, h.end_ m (.int _)⟩
  · obtain ⟨v, rfl, r⟩ := one_inv rl
    cases r
    exact .inr ⟨_, rfl, h.end_ m (.int _)⟩
  · exact h.elim
def fMax2 : MF := fun ds M => match ds with
  | [.int i, .int j] => .ok (.int (if j > i then j else i)) M
  | _ => .bad
theorem rs_max2 {K : PySem.W.Frag} : RSC K (fun xs H Q => ∃ i j, xs = [.int i, .int j] ∧ Q (.int (if j > i then j else i)) H) fMax2 := by
  intro E L H M ds xs Q m rl h
  unfold fMax2 at h
  split at h
  · obtain ⟨v, w, rfl, r1, r2⟩ := two_inv rl
    cases r1; cases r2
    exact ⟨_, _, rfl, h.end_ m (.int _)⟩
  · exact h.elim
def fRepr : MF := fun ds M => match ds with
  | [d] => (match pdM M d with
    | some p => if p.showable && decide (p.depth ≤ 60) && decide (p.shown.length ≤ 1000000) then .ok (.str p.shown) M else .bad
    | none => .bad)
  | _ => .bad
theorem rs_repr {K : PySem.W.Frag} : RSC K (rRepr K) fRepr := by
  intro E L H M ds xs Q m rl h
  unfold fRepr at h
  split at h
  · obtain ⟨v, rfl, r⟩ := one_inv rl
    split at h
    · rename_i p hp
      split at h
      · rename_i hz
        have z1 := and_l hz
        exact ⟨v, p, rfl, pdM_ok m r hp, and_l z1, of_decide_eq_true (and_r z1), Nat.le_trans (of_decide_eq_true (and_r hz)) (by decide), h.end_ m (.str _)⟩
      · exact h.elim
    · exact h.elim
  · exact h.elim
/-! text.index(part), where it is -/
def fIndex : MM := fun d ds M => match d, ds with
  | .str a, [.str b] => (match Txt.index0 a b with
    | some k => .ok (.int (k : Nat)) M
    | none => .bad)
  | _, _ => .bad
theorem fIndex_inv {K : PySem.W.Frag} {E : XK} {L : Wd} {H : Hp} {d : D} {ds : List D} {M : Mem} {Q : VK} (h : Fin (Is K) K E L H (fIndex d ds M) Q) : ∃ z w j, d = .str z ∧ ds = [.str w] ∧ Txt.index0 z w = some j ∧ Fin (Is K) K E L H (.ok (.int (j : Nat)) M) Q := by
  unfold fIndex at h
  split at h
  · split at h
    · next e => exact ⟨_, _, _, rfl, rfl, e, h⟩
    · exact h.elim
  · exact h.elim
section
variable {G : Gd} {k : Nat} {E : XK} {N : List Str} {sc : Scope} {X : Cx} {a b e o kx vx : Expr} {es : List Expr} {ma mb mo : ME} {mr : MA} {pos p p2 apos cpos : Pos}
theorem ce_index (c : Cq G k E N sc X) (ho : PE X o (tD G.K E mo)) (ha : PA X [e] (tAD G.K E mr)) (hbase : attributeBase o "index" X.env (eval o X.env) = eval o X.env := by rfl)
    (few : ((backTo cpos (starEach [e] X.env)).all (fun x => !x.1) && (backToKw cpos (keywordEach [] X.env)).all (fun x => x.1.isSome) && decide ([e].length + ([] : List Keyword).length + (if ([] : List Keyword).isEmpty then 0 else 1) < 30)) = true := by rfl)
    (line : (apos.endLine == cpos.line) = true := by rfl) (first : starEach [e] X.env = (false, eval e X.env) :: starEach [] X.env := by rfl) (plain : (backTo cpos (starEach [] X.env)).any (·.1) = false := by rfl) :
    PE X (.Call (.Attribute o "index" apos) [e] [] cpos) (tD G.K E (mMeth isStr fIndex mo mr)) := by
  obtain rfl := c.g
  refine (pe_bmS PySem.F.plainAttrs_str PySem.F.slot_str_index PySem.F.type_str_index (mt_indexX c.calm takes0) ho ha hbase few line first plain).imp fun σ H Q ⟨env, L, M, he, hm, h⟩ => ?_
  refine ⟨env, L, M, he, hm, Fin.imp (Fin.bind h) fun x H1 ⟨d, M1, L1, s1, m1, r1, h1⟩ => ?_⟩
  split at h1
  · rename_i hy
    refine ⟨ty_str L1 H1 M1 d x m1 r1 hy, env, L1, M1, he.step s1, m1, Fin.imp (Fin.bind h1) fun xs H2 ⟨ds, M2, L2, s2, m2, r2, h2⟩ => ?_⟩
    obtain ⟨z, w, j, rfl, rfl, q, h3⟩ := fIndex_inv h2
    obtain ⟨v, rfl, r3⟩ := one_inv r2
    cases r1
    cases r3
    refine ⟨z, w, rfl, rfl, fun j' e => ?_, fun e => ?_⟩
    · rw [q] at e
      cases e
      exact h3.end_ m2 (.int _)
    · rw [q] at e
      cases e
  · exact h1.elim
/-! ### dict displays -/
def mPairs : List (ME × ME) → Env → Mem → Res (List (D × D))
  | [], _, M => .ok [] M
  | (mk, mv) :: r, env, M => (mk env M).bind fun x M1 => (mv env M1).bind fun y M2 => (mPairs r env M2).bind fun ps M3 => .ok ((x, y) :: ps) M3
def keysOf : List (D × D) → Option (List (Key × D))
  | [] => some []
  | (x, y) :: r => (keyOf x).bind fun k => (keysOf r).map fun ks => (k, y) :: ks
inductive IsP (K : PySem.W.Frag) (L : Wd) (H : Hp) : List (D × D) → List (V × V) → Prop
  | nil : IsP K L H [] []
  | cons {x y : D} {u v : V} {r : List (D × D)} {s : List (V × V)} : Is K L H x u → Is K L H y v → IsP K L H r s → IsP K L H ((x, y) :: r) ((u, v) :: s)
theorem IsP.mv {K : PySem.W.Frag} {L L' : Wd} {H H' : Hp} (s : Mv L H L' H') : ∀ {r : List (D × D)} {t : List (V × V)}, IsP K L H r t → IsP K L' H' r t
  | _, _, .nil => .nil
  | _, _, .cons a b c => .cons (a.mv s) (b.mv s) (IsP.mv s c)
theorem keysOf_ok {K : PySem.W.Frag} {L : Wd} {H : Hp} : ∀ {r : List (D × D)} {t : List (V × V)} {ks : List (Key × D)}, IsP K L H r t → keysOf r = some ks → ∃ ws : List (Key × V), t = ws.map (fun kv => (kV kv.1, kv.2)) ∧ IsKV K L H ks ws
  | _, _, _, .nil, h => by cases h; exact ⟨[], rfl, .nil⟩
  | _, _, _, .cons a b c, h => by
    obtain ⟨k, h1, h⟩ := Option.bind_eq_some_iff.mp h
    obtain ⟨ks, h2, rfl⟩ := Option.map_eq_some_iff.mp h
    obtain ⟨ws, rfl, r⟩ := keysOf_ok c h2
    obtain rfl := key_ok a h1
    exact ⟨(k, _) :: ws, rfl, .cons b r⟩
theorem Fin.assoc {α β γ ε : Type} {K : PySem.W.Frag} {L : Wd} {H : Hp} {Rm : Wd → Hp → γ → ε → Prop} {r : Res α} {f : α → Mem → Res β} {g : β → Mem → Res γ} {Q : ε → Hp → Prop} (h : Fin Rm K E L H ((r.bind f).bind g) Q) : Fin Rm K E L H (r.bind fun a M => (f a M).bind g) Q := by
  cases r <;> exact h
def trsOf (K : PySem.W.Frag) (E : XK) (ms : List (ME × ME)) : List (TE × TE) := ms.map fun m => (tD K E m.1, tD K E m.2)
/-- the pairs of a display, while the dict at p stands empty -/
theorem pairs_under {p : Addr} {L : Wd} {H : Hp} (hp : H p = none) {env : Env} {σ : L2.St} {Q : List (V × V) → Hp → Prop} : ∀ (ms : List (ME × ME)) (L0 : Wd) (H0 : Hp) (M0 : Mem) (f : List (D × D) → Mem → Res D) (Q' : VK), Step L H L0 H0 → MemIs G.K (L0.hide p) H0 M0 → EnvIs G.K (L0.hide p) H0 env σ →
    Fin (Is G.K) G.K E L H ((mPairs ms env M0).bind f) Q' →
    (∀ ps vs L1 H1 M1, Step L H L1 H1 → H1 p = H0 p → Mv (L0.hide p) H0 (L1.hide p) H1 → MemIs G.K (L1.hide p) H1 M1 → IsP G.K (L1.hide p) H1 ps vs → Fin (Is G.K) G.K E L H (f ps M1) Q' → Q vs H1) → tPairs (trsOf G.K E ms) σ H0 Q := by
  intro ms
  induction ms generalizing Q with
  | nil => exact fun L0 H0 M0 f Q' s0 m0 e0 h go => go [] [] L0 H0 M0 s0 rfl Mv.refl m0 .nil h
  | cons m ms ih =>
    intro L0 H0 M0 f Q' s0 m0 e0 h go
    obtain ⟨mk, mv⟩ := m
    replace h : Fin (Is G.K) G.K E L H ((mk env M0).bind fun x M1 => ((mv env M1).bind fun y M2 => (mPairs ms env M2).bind fun ps M3 => .ok ((x, y) :: ps) M3).bind f) Q' := Fin.assoc h
    refine ⟨env, L0.hide p, M0, e0, m0, Fin.imp (Fin.under hp s0 h) fun u H1 ⟨x, M1, L1, s1, q1, m1, r1, v1, h1⟩ => ?_⟩
    replace h1 := Fin.assoc h1
    refine ⟨env, L1.hide p, M1, e0.mv v1, m1, Fin.imp (Fin.under hp s1 h1) fun v H2 ⟨y, M2, L2, s2, q2, m2, r2, v2, h2⟩ => ?_⟩
    refine ih L2 H2 M2 (fun ps M3 => f ((x, y) :: ps) M3) Q' s2 m2 ((e0.mv v1).mv v2) ?_ fun ps vs L3 H3 M3 s3 q3 v3 m3 r3 h3 => ?_
    · have := Fin.assoc h2
      revert this
      cases mPairs ms env M2 <;> exact id
    · exact go ((x, y) :: ps) ((u, v) :: vs) L3 H3 M3 s3 (q3.trans (q2.trans q1)) ((v1.trans v2).trans v3) m3 (.cons ((r1.mv v2).mv v3) (r2.mv v3) r3) h3
end
end Ly

namespace Ly
open PySem PySem.Spec PyProof.Rows L2
/-! ### a thing that was built out of sight becomes a cell -/
section
variable {K : PySem.W.Frag} {L L1 : Wd} {H H1 : Hp} {M : Mem} {p : Addr}
theorem Mv.land : Mv (L.hide p) H (L.add p) H := ⟨fun n a h => by
  show (L.l ++ [p])[n]? = some a
  have h : L.l[n]? = some a := h
  rw [List.getElem?_append_left (List.getElem?_eq_some_iff.mp h).1]
  exact h, fun a o e n => ⟨e, fun z => by
    rcases List.mem_append.mp z with z | z
    · exact n.1 z
    · exact out_ne n (by simpa using z), fun z => n.2 (List.mem_cons_of_mem _ z)⟩⟩
theorem MemIs.land {c : Cell} (m : MemIs K (L.hide p) H M) (np : p ∉ L.z) (hc : CellIs K (L.add p) H c p) : MemIs K (L.add p) H (M ++ [c]) := by
  have hn : p ∉ L.l := (m.hid p List.mem_cons_self).1
  have ml : L.l.length = M.length := m.len
  refine ⟨by simp [Wd.add, ml], ?_, fun n a c' e q => ?_, fun a h => ⟨fun z => ?_, (m.hid a (List.mem_cons_of_mem _ h)).2⟩⟩
  · show (L.l ++ [p]).Nodup
    rw [List.nodup_append]
    exact ⟨m.nd, by simp, fun a ha b hb => by
      have : b = p := by simpa using hb
      subst this
      exact fun z => hn (z ▸ ha)⟩
  · have e : (L.l ++ [p])[n]? = some a := e
    by_cases h : n < L.l.length
    · rw [List.getElem?_append_left h] at e
      rw [List.getElem?_append_left (by rw [← ml]; exact h)] at q
      exact (m.cell n a c' e q).mv Mv.land rfl
    · rw [List.getElem?_append_right (by omega)] at e
      rw [List.getElem?_append_right (by rw [← ml]; omega)] at q
      have hk : n - L.l.length = 0 := by
        have := (List.getElem?_eq_some_iff.mp e).1
        simp at this
        omega
      rw [hk] at e
      rw [show n - M.length = 0 by rw [← ml]; exact hk] at q
      simp at e q
      subst e
      subst q
      exact hc
  · rcases List.mem_append.mp z with z | z
    · exact (m.hid a (List.mem_cons_of_mem _ h)).1 z
    · exact np (by rw [← show a = p by simpa using z]; exact h)
theorem Step.land (s : Step L H L1 H1) (hp : H p = none) : Step L H (L1.add p) H1 := by
  obtain ⟨l, e⟩ := s.more
  refine ⟨⟨l ++ [p], by show L1.l ++ [p] = _; rw [e, List.append_assoc]⟩, s.same, s.hid, fun a o q n => ⟨(s.keep a o q n).1, fun z => ?_, (s.keep a o q n).2.2⟩⟩
  rcases List.mem_append.mp z with z | z
  · exact (s.keep a o q n).2.1 z
  · exact ne_of_none q hp (by simpa using z)
/-- k: as a cell -/
def bdD (k : Bool) (kvs : List (Key × D)) (M : Mem) : Res D := if k then .ok (.ref M.length) (M ++ [.dic kvs]) else .ok (.dic kvs) M
def bdL (k : Bool) (ds : List D) (M : Mem) : Res D := if k then .ok (.ref M.length) (M ++ [.lst ds]) else .ok (.lst ds) M
variable {E : XK} {Q : VK}
theorem bdD_ok {k : Bool} {kvs : List (Key × D)} {kws : List (Key × V)} (s : Step L H L1 H1) (hp : H p = none) (np : p ∉ L.z) (m : MemIs K (L1.hide p) H1 M) (q : H1 p = some (.dK kws)) (r : IsKV K (L1.hide p) H1 kvs kws) (h : Fin (Is K) K E L H (bdD k kvs M) Q) : Q (.ref p) H1 := by
  have np1 : p ∉ L1.z := by rw [s.same]; exact np
  unfold bdD at h
  split at h
  · refine h (L1.add p) H1 _ (s.land hp) (m.land np1 ⟨kws, q, r.mv Mv.land⟩) (.ref ?_)
    have : L1.l.length = M.length := m.len
    rw [← this]
    simp [Wd.add]
  · exact h L1 H1 _ s m.show (.dic q ⟨(m.hid p List.mem_cons_self).1, np1⟩ (r.mv Mv.show))
theorem bdL_ok {k : Bool} {ds : List D} {vs : List V} (s : Step L H L1 H1) (hp : H p = none) (np : p ∉ L.z) (m : MemIs K (L1.hide p) H1 M) (q : H1 p = some (.lst vs)) (r : IsL K (L1.hide p) H1 ds vs) (h : Fin (Is K) K E L H (bdL k ds M) Q) : Q (.ref p) H1 := by
  have np1 : p ∉ L1.z := by rw [s.same]; exact np
  unfold bdL at h
  split at h
  · refine h (L1.add p) H1 _ (s.land hp) (m.land np1 ⟨vs, q, r.mv Mv.land⟩) (.ref ?_)
    have : L1.l.length = M.length := m.len
    rw [← this]
    simp [Wd.add]
  · exact h L1 H1 _ s m.show (.lst q ⟨(m.hid p List.mem_cons_self).1, np1⟩ (r.mv Mv.show))
end
/-! ### dict displays -/
def mDisp (kp : Bool) (ms : List (ME × ME)) : ME := fun env M => (mPairs ms env M).bind fun ps M1 => match keysOf ps with
  | some ks => if ks.length ≤ 15 then bdD kp (mergeD [] ks) M1 else .bad
  | none => .bad
def mDNew (kp : Bool) : ME := fun _ M => bdD kp [] M
section
variable {G : Gd} {k : Nat} {E : XK} {N : List Str} {sc : Scope} {X : Cx} {pos : Pos} {kp : Bool}
theorem ce_dnew : PE X (.Dict [] [] pos) (tD G.K E (mDNew kp)) := pe_dnewK.imp fun σ H Q ⟨env, L, M, he, hm, h⟩ p hp =>
  bdD_ok (Step.new hm hp).1 hp (hm.out hp).2 (hm.hide hp) upd_same .nil h
theorem ce_disp {keys : List (Option Expr)} {values : List Expr} {ms : List (ME × ME)} (h : PPs X pos keys values (trsOf G.K E ms)) (hall : keys.all (·.isSome) = true := by rfl) (hl : keys.length = values.length := by rfl) (h0 : keys ≠ [] := by nofun) (h15 : keys.length ≤ 15 := by decide) :
    PE X (.Dict keys values pos) (tD G.K E (mDisp kp ms)) := by
  refine (pe_disp h hall hl h0 h15).imp fun σ H Q ⟨env, L, M, he, hm, h⟩ p hp => ?_
  refine pairs_under hp ms L (upd H p (.dK [])) M _ Q (Step.new hm hp).1 (hm.hide hp) (he.mv (Mv.hide hp)) h fun ps vs L1 H1 M1 s1 q1 v1 m1 r1 h1 => ?_
  cases e : keysOf ps with
  | none =>
    simp only [e] at h1
    exact h1.elim
  | some ks =>
    simp only [e] at h1
    obtain ⟨ws, rfl, rw_⟩ := keysOf_ok r1 e
    split at h1
    · next hz =>
      refine ⟨q1.trans upd_same, ws, rfl, by rw [← rw_.length]; exact hz, ?_⟩
      exact bdD_ok (s1.built (hm.out hp).2 hp) hp (hm.out hp).2 m1.built upd_same ((merge_ok rw_ .nil).mv Mv.built) h1
    · exact h1.elim
theorem cps_cons {ka va : Expr} {ks : List (Option Expr)} {vs : List Expr} {mk mw : ME} {ms : List (ME × ME)} (hk : PE X ka (tD G.K E mk)) (hv : PE X va (tD G.K E mw)) (hr : PPs X pos ks vs (trsOf G.K E ms)) : PPs X pos (some ka :: ks) (va :: vs) (trsOf G.K E ((mk, mw) :: ms)) := pps_cons hk hv hr
theorem cps_nil : PPs X pos [] [] (trsOf G.K E []) := pps_nil
/-! ### dict comprehensions -/
open Classical in
noncomputable def compD (g : GD) (t : MT) (ek el : ME) (chk : Mem → Prop) (env : Env) : List D → List (Key × D) → Mem → Res (List (Key × D))
  | [], acc, M => if chk M then .ok acc M else .bad
  | d :: ds, acc, M => if chk M then (match g.f d env with
      | some env' => (noX (t env' M)).bind fun c M1 => if c then (noX (ek env' M1)).bind fun x M2 => (noX (el env' M2)).bind fun y M3 => (match keyOf x with
          | some ky => if szOk (acc.length + 1) then compD g t ek el chk env ds (putD acc ky y) M3 else .bad
          | none => .bad) else compD g t ek el chk env ds acc M1
      | none => .bad) else .bad
noncomputable def mDc (kp : Bool) (mi : MI) (g : GD) (t : MT) (ek el : ME) (vs : List Nat) : ME := fun env M => (mi env M).bind fun it M1 => (compD g t ek el it.chk (wipeD env vs) it.items [] M1).bind fun ds M2 => bdD kp ds M2
theorem dc_sim {mi : MI} {g : GD} {t : MT} {ek el : ME} {vs : List Nat} (hsl : ∀ i ∈ g.sl, i ∈ vs) {σ : L2.St} {H : Hp} {Q : VK} (h : tD G.K E (mDc kp mi g t ek el vs) σ H Q) :
    tDc (tID G.K E mi) (gtD G.K g) (tTD G.K E0 t) (tD G.K E0 ek) (tD G.K E0 el) vs σ H Q := by
  obtain ⟨env, L, M, he, hm, h⟩ := h
  refine ⟨env, L, M, he, hm, Fin.imp (Fin.bind h) fun J H1 ⟨it, M1, L1, s1, m1, r1, h1⟩ p hp => ?_⟩
  have e1 := he.step s1
  have op := m1.out hp
  refine ⟨fun i n H' => ∃ L' M' acc avs, n = it.items.length - i ∧ i ≤ it.items.length ∧ Step L1 H1 L' H' ∧ MemIs G.K (L'.hide p) H' M' ∧ H' p = some (.dK avs) ∧ IsKV G.K (L'.hide p) H' acc avs ∧
      Fin (Is G.K) G.K E L1 H1 ((compD g t ek el it.chk (wipeD env vs) (it.items.drop i) acc M').bind fun ds M2 => bdD kp ds M2) Q,
    ⟨_, L1, M1, [], [], rfl, Nat.zero_le _, (Step.new m1 hp).1, m1.hide hp, upd_same, .nil, h1⟩, ?_⟩
  rintro i n H2 ⟨L2, M2, acc, avs, rfl, hi', s2, m2, q2, a2, h2⟩
  have mv2 : Mv L1 H1 (L2.hide p) H2 := s2.mvHide hp
  by_cases hlt : i < it.items.length
  · rw [List.drop_eq_getElem_cons hlt] at h2
    unfold compD at h2
    split at h2
    · rename_i hc
      have itx := r1 (L2.hide p) H2 M2 mv2 m2 hc i
      obtain ⟨go, yl⟩ := itx.1 _ (List.getElem?_eq_getElem hlt)
      refine .inr ⟨go, fun H3 => ∃ L' M' acc avs, Step L1 H1 L' H3 ∧ MemIs G.K (L'.hide p) H3 M' ∧ H3 p = some (.dK avs) ∧ IsKV G.K (L'.hide p) H3 acc avs ∧
        Fin (Is G.K) G.K E L1 H1 ((compD g t ek el it.chk (wipeD env vs) (it.items.drop (i + 1)) acc M').bind fun ds M2 => bdD kp ds M2) Q, fun H3 ⟨L', M', acc, avs, x1, x2, x3, x4, x5⟩ => ⟨_, by omega, L', M', acc, avs, rfl, hlt, x1, x2, x3, x4, x5⟩, fun x H3 y => ?_⟩
      obtain ⟨s3, m3, r3⟩ := yl x H3 y
      cases q : g.f it.items[i] (wipeD env vs) with
      | none =>
        rw [q] at h2
        exact h2.elim
      | some env3 =>
        rw [q] at h2
        refine ⟨wipeD env vs, L2.hide p, M2, _, env3, ((e1.mv mv2).step s3).wipe vs, m3, r3, q, fun H4 σ4 s4 m4 e4 c4 => ⟨wipe_chg c4 hsl, env3, L2.hide p, M2, e4, m4, ?_⟩⟩
        replace s3 := s3.trans s4
        obtain ⟨s23, e23, s23'⟩ := s2.over hp s3
        cases ht : t env3 M2 with
        | bad =>
          simp only [ht] at h2
          exact h2.elim
        | exc x M =>
          simp only [ht] at h2
          exact h2.elim
        | ok c M4 =>
          simp only [ht] at h2
          intro L5 H5 b5 s5 m5 r5
          cases r5
          obtain ⟨L5', rfl, s15⟩ := s2.over hp (s3.trans s5)
          have q5 : H5 p = some (.dK avs) := ((s3.trans s5).hid p List.mem_cons_self).trans q2
          have a5 := a2.step (s3.trans s5)
          cases c with
          | false =>
            rw [if_neg Bool.false_ne_true]
            exact ⟨L5', M4, acc, avs, s15, m5, q5, a5, h2⟩
          | true =>
            rw [if_pos rfl]
            refine ⟨env3, L5'.hide p, M4, e4.step s5, m5, ?_⟩
            replace h2 : Fin (Is G.K) G.K E L1 H1 (((noX (ek env3 M4)).bind fun x M2 => (noX (el env3 M2)).bind fun y M3 => (match keyOf x with
              | some ky => if szOk (acc.length + 1) then compD g t ek el it.chk (wipeD env vs) (it.items.drop (i + 1)) (putD acc ky y) M3 else .bad
              | none => .bad)).bind fun ds M2 => bdD kp ds M2) Q := h2
            cases hx : ek env3 M4 with
            | bad =>
              rw [hx] at h2
              exact h2.elim
            | exc x M =>
              rw [hx] at h2
              exact h2.elim
            | ok xd M5 =>
              rw [hx] at h2
              intro L6 H6 xv s6 m6 r6
              replace h2 : Fin (Is G.K) G.K E L1 H1 (((noX (el env3 M5)).bind fun y M3 => (match keyOf xd with
                | some ky => if szOk (acc.length + 1) then compD g t ek el it.chk (wipeD env vs) (it.items.drop (i + 1)) (putD acc ky y) M3 else .bad
                | none => .bad)).bind fun ds M2 => bdD kp ds M2) Q := h2
              refine ⟨env3, L6, M5, (e4.step s5).step s6, m6, ?_⟩
              cases hy : el env3 M5 with
              | bad =>
                rw [hy] at h2
                exact h2.elim
              | exc x M =>
                rw [hy] at h2
                exact h2.elim
              | ok yd M6 =>
                rw [hy] at h2
                intro L7 H7 yv s7 m7 r7
                obtain ⟨L7', rfl, s17⟩ := s2.over hp (((s3.trans s5).trans s6).trans s7)
                have q7 : H7 p = some (.dK avs) := ((((s3.trans s5).trans s6).trans s7).hid p List.mem_cons_self).trans q2
                have a7 := a2.step (((s3.trans s5).trans s6).trans s7)
                replace h2 : Fin (Is G.K) G.K E L1 H1 ((match keyOf xd with
                  | some ky => if szOk (acc.length + 1) then compD g t ek el it.chk (wipeD env vs) (it.items.drop (i + 1)) (putD acc ky yd) M6 else .bad
                  | none => .bad).bind fun ds M2 => bdD kp ds M2) Q := h2
                cases hk : keyOf xd with
                | none =>
                  rw [hk] at h2
                  exact h2.elim
                | some ky =>
                  rw [hk] at h2
                  replace h2 : Fin (Is G.K) G.K E L1 H1 ((if szOk (acc.length + 1) then compD g t ek el it.chk (wipeD env vs) (it.items.drop (i + 1)) (putD acc ky yd) M6 else .bad).bind fun ds M2 => bdD kp ds M2) Q := h2
                  split at h2
                  · rename_i hz
                    refine ⟨avs, ky, key_ok r6 hk, q7, ?_, L7', M6, putD acc ky yd, putK avs ky yv, s17.built op.2 hp, m7.built, upd_same, (put_ok r7 a7).mv Mv.built, h2⟩
                    have := szOk.le hz
                    rw [a7.length] at this
                    omega
                  · exact h2.elim
    · exact h2.elim
  · have e : i = it.items.length := by omega
    subst e
    rw [List.drop_length] at h2
    unfold compD at h2
    split at h2
    · rename_i hc
      exact .inl ⟨(r1 (L2.hide p) H2 M2 mv2 m2 hc _).2 rfl, bdD_ok s2 hp op.2 m2 q2 a2 h2⟩
    · exact h2.elim
/-- {kx: vx for tg in iter if ..} -/
theorem ce_dc {kx vx tg iter : Expr} {ifs : List Expr} {scope : Scope} {own : List (Str × Nat)} {mi : MI} {g : GD} {t : MT} {ek el : ME} (c : Cq G k E N sc X) (hi : PI X tg iter (tID G.K E mi)) (ok : blkC N sc scope own = true) (hk : scope.kind = ScopeKind.function)
    (hg : ∀ Y, Cq G k E0 N (relS scope sc) Y → Y.fn = (fun x => scope.names.lookup x == some .cell) → PG Y tg (gtD G.K g)) (ht : ∀ Y, Cq G k E0 N (relS scope sc) Y → PTs Y ifs (tTD G.K E0 t)) (hx : ∀ Y, Cq G k E0 N (relS scope sc) Y → PE Y kx (tD G.K E0 ek)) (he : ∀ Y, Cq G k E0 N (relS scope sc) Y → PE Y vx (tD G.K E0 el))
    (hsl : ∀ i ∈ g.sl, i ∈ own.map (·.2)) (hs : ∀ x, foldedSetIterable iter X.env x = pure x := by intro _; rfl) : PE X (.DictComp kx vx [⟨tg, iter, ifs, 0⟩] scope pos) (tD G.K E (mDc kp mi g t ek el (own.map (·.2)))) :=
  (pe_dc (own := own) c.calm (by rw [c.n]; exact c.nd) hi (by rw [c.n, c.scq]; exact blkOk_by ok) (fun s H C cl fp => hg _ (cq_blk c hk s H C cl fp) rfl) (fun s H C cl fp => ht _ (cq_blk c hk s H C cl fp)) (fun s H C cl fp => hx _ (cq_blk c hk s H C cl fp)) (fun s H C cl fp => he _ (cq_blk c hk s H C cl fp)) hs).imp fun σ H Q h => dc_sim hsl h
end
end Ly

namespace L2
open PySem PySem.Spec PyProof.Rows
variable {X : Cx}
/-- name = {..: .. for ..} on one line, the name a local -/
theorem ps_setDc {i : Nat} {y : Str} {py : Pos} {kx vx tg iter : Expr} {ifs : List Expr} {scope : Scope} {own : List (Str × Nat)} {pos spos : Pos} {wi : TI} {g : TG} {tt : TT} {tk tv : TE} (hc : X.calm = true) (hN : X.N.Nodup) (hy : X.N[i]? = some y) (hyl : X.env.scope.names.lookup y = some .local)
    (hsw : swapsWith (.DictComp kx vx [⟨tg, iter, ifs, 0⟩] scope pos) (some (.Name y py)) spos.line X.env = pure true) (hi : PI X tg iter wi) (ok : BlkOk X.N X.env.scope scope own)
    (hg : ∀ (s : Shared) (H : Hp) (C : Addr) (cl : List (Str × Addr)) (fp : List Addr), PG (X.blk s H scope (compEnvC scope cl C X.env) fp) tg g) (ht : ∀ (s : Shared) (H : Hp) (C : Addr) (cl : List (Str × Addr)) (fp : List Addr), PTs (X.blk s H scope (compEnvC scope cl C X.env) fp) ifs tt)
    (hk : ∀ (s : Shared) (H : Hp) (C : Addr) (cl : List (Str × Addr)) (fp : List Addr), PE (X.blk s H scope (compEnvC scope cl C X.env) fp) kx tk)
    (he : ∀ (s : Shared) (H : Hp) (C : Addr) (cl : List (Str × Addr)) (fp : List Addr), PE (X.blk s H scope (compEnvC scope cl C X.env) fp) vx tv) (hs : ∀ x, foldedSetIterable iter X.env x = pure x := by intro _; rfl) :
    PS X (.Assign [.Name y py] (.DictComp kx vx [⟨tg, iter, ifs, 0⟩] scope pos) spos) (tAsg (tDc wi g tt tk tv (own.map (·.2))) (gName i)) := by
  refine ⟨fun pins s σ H D I h => ?_⟩
  rw [exec_Assign_Name_used _ _ _ _ hsw]
  refine wpAny_bind (wpAny_standAt (wpAny_bind ?_))
  show wpAny _ X.A (do let _ ← comprehension (.DictComp kx vx [⟨tg, iter, ifs, 0⟩] scope pos) scope X.env (firstIterPos [⟨tg, iter, ifs, 0⟩] pos) newDict false (eval iter X.env) (some (assign (.Name y py) X.env))) _ _ s
  have h : tDc wi g tt tk tv (own.map (·.2)) σ H (fun x H1 => gName i x σ H1 D.nx) := h
  refine wpAny_bind (thn (dc_core (Qf := fun _ s' => SP X pins D .next s') hc hN I hi ok hg ht hk he hs h fun L C s' m H' I' q hn f => ?_) fun _ s' hq => wpAny_pure (wpAny_pure hq))
  show wpAny _ _ (assign (.Name y py) X.env (.ref L)) _ _ _
  refine wpAny_assign_Name (store_ok2 (v := V.ref L) I' hN hy (.inl hyl) rfl (fun s2 I2 ⟨a, sb, ha⟩ => ?_) (.inr hyl))
  obtain ⟨f0, f1, f2, f3, f4, f5⟩ := f
  have haC : C ≠ a := by
    rcases ha with z | z
    · rw [z]; exact f1
    · exact fun e => f4 y a z e.symm
  refine ⟨m, hn.sameBut sb haC, fun h3 sb3 => ?_⟩
  exact ⟨_, H', I2.turned (t' := s2.toks) (fun b o hb e => (sb3.2 b hb).trans e) f0 f1 f3 f4 f5, q⟩
theorem sw_trueD {kx vx : Expr} {gs : List Comprehension} {scope : Scope} {pos py : Pos} {y : Str} {l : Nat} {env : Env} (hk : env.scope.kind = .function) (hy : env.scope.names.lookup y = some .local) (hl : (py.line == pos.line) = true)
    (ha : (scope.names.any fun (n, k) => n == y && (k == .local || k == .cell)) = false) : swapsWith (.DictComp kx vx gs scope pos) (some (.Name y py)) l env = pure true := by
  have ky : env.kindOf y = some .local := hy
  have hb : env.blockKind = .function := by unfold Env.blockKind; rw [hk]; rfl
  unfold swapsWith
  simp only [hb, ky, ha, Expr.pos, hl]
  rfl
end L2
namespace Ly
open PySem PySem.Spec PyProof.Rows L2
section
variable {G : Gd} {k : Nat} {E : XK} {N : List Str} {sc : Scope} {X : Cx} {pos : Pos} {kp : Bool}
/-- name = [..], the list frozen, by the names alone -/
theorem cs_lc {i : Nat} {y : Str} {py spos : Pos} {elt tg iter : Expr} {ifs : List Expr} {scope : Scope} {own : List (Str × Nat)} {mi : MI} {g : GD} {t : MT} {el : ME} (c : Cq G k E N sc X) (hy : N[i]? = some y) (hyl : sc.names.lookup y = some NameKind.local)
    (hi : PI X tg iter (tID G.K E mi)) (ok : blkC N sc scope own = true) (hk : scope.kind = ScopeKind.function)
    (hg : ∀ Y, Cq G k E0 N (relS scope sc) Y → Y.fn = (fun x => scope.names.lookup x == some .cell) → PG Y tg (gtD G.K g)) (ht : ∀ Y, Cq G k E0 N (relS scope sc) Y → PTs Y ifs (tTD G.K E0 t)) (he : ∀ Y, Cq G k E0 N (relS scope sc) Y → PE Y elt (tD G.K E0 el))
    (hsl : ∀ i ∈ g.sl, i ∈ own.map (·.2)) (hl : (py.line == pos.line) = true := by rfl) (ha : (scope.names.any fun (n, k) => n == y && (k == .local || k == .cell)) = false := by rfl) (hs : ∀ x, foldedSetIterable iter X.env x = pure x := by intro _; rfl) :
    PS X (.Assign [.Name y py] (.ListComp elt [⟨tg, iter, ifs, 0⟩] scope pos) spos) (sD G.K E (mAsg (mLc mi g t el (own.map (·.2))) (gN i))) :=
  cs_setLc c hy hyl (sw_true (by rw [c.scq]; exact c.kd) (by rw [c.scq]; exact hyl) hl ha) hi ok hk hg ht he hsl hs
theorem cs_dc {i : Nat} {y : Str} {py spos : Pos} {kx vx tg iter : Expr} {ifs : List Expr} {scope : Scope} {own : List (Str × Nat)} {mi : MI} {g : GD} {t : MT} {ek el : ME} (c : Cq G k E N sc X) (hy : N[i]? = some y) (hyl : sc.names.lookup y = some NameKind.local)
    (hi : PI X tg iter (tID G.K E mi)) (ok : blkC N sc scope own = true) (hk : scope.kind = ScopeKind.function)
    (hg : ∀ Y, Cq G k E0 N (relS scope sc) Y → Y.fn = (fun x => scope.names.lookup x == some .cell) → PG Y tg (gtD G.K g)) (ht : ∀ Y, Cq G k E0 N (relS scope sc) Y → PTs Y ifs (tTD G.K E0 t)) (hx : ∀ Y, Cq G k E0 N (relS scope sc) Y → PE Y kx (tD G.K E0 ek)) (he : ∀ Y, Cq G k E0 N (relS scope sc) Y → PE Y vx (tD G.K E0 el))
    (hsl : ∀ i ∈ g.sl, i ∈ own.map (·.2)) (hl : (py.line == pos.line) = true := by rfl) (ha : (scope.names.any fun (n, k) => n == y && (k == .local || k == .cell)) = false := by rfl) (hs : ∀ x, foldedSetIterable iter X.env x = pure x := by intro _; rfl) :
    PS X (.Assign [.Name y py] (.DictComp kx vx [⟨tg, iter, ifs, 0⟩] scope pos) spos) (sD G.K E (mAsg (mDc kp mi g t ek el (own.map (·.2))) (gN i))) := by
  refine (ps_setDc (i := i) (own := own) c.calm (by rw [c.n]; exact c.nd) (by rw [c.n]; exact hy) (by rw [c.scq]; exact hyl) (sw_trueD (by rw [c.scq]; exact c.kd) (by rw [c.scq]; exact hyl) hl ha) hi (by rw [c.n, c.scq]; exact blkOk_by ok) (fun s H C cl fp => hg _ (cq_blk c hk s H C cl fp) rfl) (fun s H C cl fp => ht _ (cq_blk c hk s H C cl fp)) (fun s H C cl fp => hx _ (cq_blk c hk s H C cl fp)) (fun s H C cl fp => he _ (cq_blk c hk s H C cl fp)) hs).imp fun T σ H ⟨env, L, M, he, hm, h⟩ => ?_
  refine dc_sim (G := G) (E := E) hsl ⟨env, L, M, he, hm, Fin.imp (Fin.bindS h) fun v H1 ⟨d, M1, L1, s1, m1, r1, h1⟩ => ?_⟩
  exact h1 L1 H1 _ Step.refl m1 ((he.step s1).set i r1)
end
end Ly

namespace Ly
open PySem PySem.Spec PyProof.Rows L2
section
variable {G : Gd} {k : Nat} {E : XK} {N : List Str} {sc : Scope} {X : Cx} {a b e o : Expr} {es : List Expr} {ma mb mo : ME} {mr : MA} {pos p p2 apos cpos : Pos}
theorem hu64 {k : Nat} {A : Around} (r : Room k A) : A.units + 64 < cLine := by
  have := r.un
  omega
/-! ### operators, by the context -/
theorem ce_add (c : Cq G k E N sc X) (ha : PE X a (tD G.K E ma)) (hb : PE X b (tD G.K E mb)) : PE X (.BinOp a .Add b pos) (tD G.K E (mBin opAdd ma mb)) := by
  obtain rfl := c.g
  exact ce_op op_addA rs_add ha hb
theorem ce_sub (c : Cq G k E N sc X) (ha : PE X a (tD G.K E ma)) (hb : PE X b (tD G.K E mb)) : PE X (.BinOp a .Sub b pos) (tD G.K E (mBin opSub ma mb)) := by
  obtain rfl := c.g
  exact ce_op op_sub rs_sub ha hb
theorem ce_mul (c : Cq G k E N sc X) (ha : PE X a (tD G.K E ma)) (hb : PE X b (tD G.K E mb)) : PE X (.BinOp a .Mult b pos) (tD G.K E (mBin opMul ma mb)) := by
  obtain rfl := c.g
  exact ce_op op_mulA rs_mul ha hb
theorem ce_fdiv (c : Cq G k E N sc X) (ha : PE X a (tD G.K E ma)) (hb : PE X b (tD G.K E mb)) : PE X (.BinOp a .FloorDiv b pos) (tD G.K E (mBin opFdiv ma mb)) := by
  obtain rfl := c.g
  exact ce_op op_fdivN rs_fdiv ha hb
theorem ce_fdivW (c : Cq G k E N sc X) (ha : PE X a (tD G.K E ma)) (hb : PE X b (tD G.K E mb)) : PE X (.BinOp a .FloorDiv b pos) (tD G.K E (mBin opFdivW ma mb)) := by
  obtain rfl := c.g
  exact ce_op op_fdivW rs_fdivW ha hb
theorem ce_mod (c : Cq G k E N sc X) (ha : PE X a (tD G.K E ma)) (hb : PE X b (tD G.K E mb)) : PE X (.BinOp a .Mod b pos) (tD G.K E (mBin opMod ma mb)) := by
  obtain rfl := c.g
  exact ce_op op_modN rs_mod ha hb
theorem ce_pow (c : Cq G k E N sc X) (ha : PE X a (tD G.K E ma)) (hb : PE X b (tD G.K E mb)) : PE X (.BinOp a .Pow b pos) (tD G.K E (mBin opPow ma mb)) := by
  obtain rfl := c.g
  exact ce_op op_pow rs_pow ha hb
theorem ce_lt (c : Cq G k E N sc X) (ha : PE X a (tD G.K E ma)) (hb : PE X b (tD G.K E mb))  : PE X (.Compare a [.Lt] [b] pos) (tD G.K E (mBin opLt ma mb)) := by
  obtain rfl := c.g
  exact ce_cmp op_lt rs_lt ha hb (nomark b)
theorem ct_lt (c : Cq G k E N sc X) (ha : PE X a (tD G.K E ma)) (hb : PE X b (tD G.K E mb))  : PT X (.Compare a [.Lt] [b] pos) (tTD G.K E (mTest (mBin opLt ma mb))) := by
  obtain rfl := c.g
  exact ct_cmp op_lt rs_lt ha hb (nomark b)
theorem ce_le (c : Cq G k E N sc X) (ha : PE X a (tD G.K E ma)) (hb : PE X b (tD G.K E mb))  : PE X (.Compare a [.LtE] [b] pos) (tD G.K E (mBin opLe ma mb)) := by
  obtain rfl := c.g
  exact ce_cmp op_le rs_le ha hb (nomark b)
theorem ct_le (c : Cq G k E N sc X) (ha : PE X a (tD G.K E ma)) (hb : PE X b (tD G.K E mb))  : PT X (.Compare a [.LtE] [b] pos) (tTD G.K E (mTest (mBin opLe ma mb))) := by
  obtain rfl := c.g
  exact ct_cmp op_le rs_le ha hb (nomark b)
theorem ce_gt (c : Cq G k E N sc X) (ha : PE X a (tD G.K E ma)) (hb : PE X b (tD G.K E mb))  : PE X (.Compare a [.Gt] [b] pos) (tD G.K E (mBin opGt ma mb)) := by
  obtain rfl := c.g
  exact ce_cmp op_gt rs_gt ha hb (nomark b)
theorem ct_gt (c : Cq G k E N sc X) (ha : PE X a (tD G.K E ma)) (hb : PE X b (tD G.K E mb))  : PT X (.Compare a [.Gt] [b] pos) (tTD G.K E (mTest (mBin opGt ma mb))) := by
  obtain rfl := c.g
  exact ct_cmp op_gt rs_gt ha hb (nomark b)
theorem ce_ge (c : Cq G k E N sc X) (ha : PE X a (tD G.K E ma)) (hb : PE X b (tD G.K E mb))  : PE X (.Compare a [.GtE] [b] pos) (tD G.K E (mBin opGe ma mb)) := by
  obtain rfl := c.g
  exact ce_cmp op_ge rs_ge ha hb (nomark b)
theorem ct_ge (c : Cq G k E N sc X) (ha : PE X a (tD G.K E ma)) (hb : PE X b (tD G.K E mb))  : PT X (.Compare a [.GtE] [b] pos) (tTD G.K E (mTest (mBin opGe ma mb))) := by
  obtain rfl := c.g
  exact ct_cmp op_ge rs_ge ha hb (nomark b)
theorem ce_eq (c : Cq G k E N sc X) (ha : PE X a (tD G.K E ma)) (hb : PE X b (tD G.K E mb))  : PE X (.Compare a [.Eq] [b] pos) (tD G.K E (mBin opEq ma mb)) := by
  obtain rfl := c.g
  exact ce_cmp (op_eqA (hu64 c.room)) rs_eq ha hb (nomark b)
theorem ct_eq (c : Cq G k E N sc X) (ha : PE X a (tD G.K E ma)) (hb : PE X b (tD G.K E mb))  : PT X (.Compare a [.Eq] [b] pos) (tTD G.K E (mTest (mBin opEq ma mb))) := by
  obtain rfl := c.g
  exact ct_cmp (op_eqA (hu64 c.room)) rs_eq ha hb (nomark b)
theorem ce_ne (c : Cq G k E N sc X) (ha : PE X a (tD G.K E ma)) (hb : PE X b (tD G.K E mb))  : PE X (.Compare a [.NotEq] [b] pos) (tD G.K E (mBin opNe ma mb)) := by
  obtain rfl := c.g
  exact ce_cmp (op_neA (hu64 c.room)) rs_ne ha hb (nomark b)
theorem ct_ne (c : Cq G k E N sc X) (ha : PE X a (tD G.K E ma)) (hb : PE X b (tD G.K E mb))  : PT X (.Compare a [.NotEq] [b] pos) (tTD G.K E (mTest (mBin opNe ma mb))) := by
  obtain rfl := c.g
  exact ct_cmp (op_neA (hu64 c.room)) rs_ne ha hb (nomark b)
theorem ce_in (c : Cq G k E N sc X) (ha : PE X a (tD G.K E ma)) (hb : PE X b (tD G.K E mb)) (hm : behindInMarks .In b = false := by with_unfolding_all rfl) : PE X (.Compare a [.In] [b] pos) (tD G.K E (mBin opIn ma mb)) := by
  obtain rfl := c.g
  exact ce_cmp (op_inA (hu_of c.room)) rs_in ha hb hm
theorem ct_in (c : Cq G k E N sc X) (ha : PE X a (tD G.K E ma)) (hb : PE X b (tD G.K E mb)) (hm : behindInMarks .In b = false := by with_unfolding_all rfl) : PT X (.Compare a [.In] [b] pos) (tTD G.K E (mTest (mBin opIn ma mb))) := by
  obtain rfl := c.g
  exact ct_cmp (op_inA (hu_of c.room)) rs_in ha hb hm
theorem ce_notIn (c : Cq G k E N sc X) (ha : PE X a (tD G.K E ma)) (hb : PE X b (tD G.K E mb)) (hm : behindInMarks .NotIn b = false := by with_unfolding_all rfl) : PE X (.Compare a [.NotIn] [b] pos) (tD G.K E (mBin opNotIn ma mb)) := by
  obtain rfl := c.g
  exact ce_cmp (op_notInA (hu_of c.room)) rs_notIn ha hb hm
theorem ct_notIn (c : Cq G k E N sc X) (ha : PE X a (tD G.K E ma)) (hb : PE X b (tD G.K E mb)) (hm : behindInMarks .NotIn b = false := by with_unfolding_all rfl) : PT X (.Compare a [.NotIn] [b] pos) (tTD G.K E (mTest (mBin opNotIn ma mb))) := by
  obtain rfl := c.g
  exact ct_cmp (op_notInA (hu_of c.room)) rs_notIn ha hb hm
/-! ### built-in functions, by the context -/
theorem ce_len (c : Cq G k E N sc X) (hm : G.mg "len" = none) (ha : PA X (e :: es) (tAD G.K E mr)) (hg : sc.names.lookup ("len" : Str) = some NameKind.globalImplicit := by rfl)
    (he : starEach (e :: es) X.env = (false, eval e X.env) :: starEach es X.env := by rfl) (hpl : (backTo pos (starEach es X.env)).any (·.1) = false := by rfl) :
    PE X (.Call (.Name "len" p) (e :: es) [] pos) (tD G.K E (mCB fLen mr)) := by
  obtain rfl := c.g
  exact ce_callB call_lenA rs_len c hg hm (by decide +kernel) ha (by decide +kernel) (by decide +kernel) he hpl
theorem ce_isi (c : Cq G k E N sc X) (hm : G.mg "isinstance" = none) (ha : PA X (e :: es) (tAD G.K E mr)) (hg : sc.names.lookup ("isinstance" : Str) = some NameKind.globalImplicit := by rfl)
    (he : starEach (e :: es) X.env = (false, eval e X.env) :: starEach es X.env := by rfl) (hpl : (backTo pos (starEach es X.env)).any (·.1) = false := by rfl) :
    PE X (.Call (.Name "isinstance" p) (e :: es) [] pos) (tD G.K E (mCB fIsi mr)) := by
  obtain rfl := c.g
  exact ce_callB call_isi rs_isi c hg hm (by decide +kernel) ha (by decide +kernel) (by decide +kernel) he hpl
theorem ce_tuple (c : Cq G k E N sc X) (hm : G.mg "tuple" = none) (ha : PA X (e :: es) (tAD G.K E mr)) (hg : sc.names.lookup ("tuple" : Str) = some NameKind.globalImplicit := by rfl)
    (he : starEach (e :: es) X.env = (false, eval e X.env) :: starEach es X.env := by rfl) (hpl : (backTo pos (starEach es X.env)).any (·.1) = false := by rfl) :
    PE X (.Call (.Name "tuple" p) (e :: es) [] pos) (tD G.K E (mCB fTuple mr)) := by
  obtain rfl := c.g
  exact ce_callT call_tuple_of rs_tuple c hg hm (by decide +kernel) ha (by decide +kernel) (by decide +kernel) he hpl
theorem ce_list (c : Cq G k E N sc X) (hm : G.mg "list" = none) (ha : PA X (e :: es) (tAD G.K E mr)) (hg : sc.names.lookup ("list" : Str) = some NameKind.globalImplicit := by rfl)
    (he : starEach (e :: es) X.env = (false, eval e X.env) :: starEach es X.env := by rfl) (hpl : (backTo pos (starEach es X.env)).any (·.1) = false := by rfl) :
    PE X (.Call (.Name "list" p) (e :: es) [] pos) (tD G.K E (mCB fList mr)) := by
  obtain rfl := c.g
  exact ce_callT call_listA rs_list c hg hm (by decide +kernel) ha (by decide +kernel) (by decide +kernel) he hpl
theorem ce_listC (c : Cq G k E N sc X) (hm : G.mg "list" = none) (ha : PA X (e :: es) (tAD G.K E mr)) (hg : sc.names.lookup ("list" : Str) = some NameKind.globalImplicit := by rfl)
    (he : starEach (e :: es) X.env = (false, eval e X.env) :: starEach es X.env := by rfl) (hpl : (backTo pos (starEach es X.env)).any (·.1) = false := by rfl) :
    PE X (.Call (.Name "list" p) (e :: es) [] pos) (tD G.K E (mCB fListC mr)) := by
  obtain rfl := c.g
  exact ce_callT call_listA rs_listC c hg hm (by decide +kernel) ha (by decide +kernel) (by decide +kernel) he hpl
theorem ce_any (c : Cq G k E N sc X) (hm : G.mg "any" = none) (ha : PA X (e :: es) (tAD G.K E mr)) (hg : sc.names.lookup ("any" : Str) = some NameKind.globalImplicit := by rfl)
    (he : starEach (e :: es) X.env = (false, eval e X.env) :: starEach es X.env := by rfl) (hpl : (backTo pos (starEach es X.env)).any (·.1) = false := by rfl) :
    PE X (.Call (.Name "any" p) (e :: es) [] pos) (tD G.K E (mCB (fBools fun bs => bs.any id) mr)) := by
  obtain rfl := c.g
  exact ce_callB (cr_any c.calm) rs_any c hg hm (by decide +kernel) ha (by decide +kernel) (by decide +kernel) he hpl
theorem ce_all (c : Cq G k E N sc X) (hm : G.mg "all" = none) (ha : PA X (e :: es) (tAD G.K E mr)) (hg : sc.names.lookup ("all" : Str) = some NameKind.globalImplicit := by rfl)
    (he : starEach (e :: es) X.env = (false, eval e X.env) :: starEach es X.env := by rfl) (hpl : (backTo pos (starEach es X.env)).any (·.1) = false := by rfl) :
    PE X (.Call (.Name "all" p) (e :: es) [] pos) (tD G.K E (mCB (fBools fun bs => bs.all id) mr)) := by
  obtain rfl := c.g
  exact ce_callB (cr_all c.calm) rs_all c hg hm (by decide +kernel) ha (by decide +kernel) (by decide +kernel) he hpl
theorem ce_sum (c : Cq G k E N sc X) (hm : G.mg "sum" = none) (ha : PA X (e :: es) (tAD G.K E mr)) (hg : sc.names.lookup ("sum" : Str) = some NameKind.globalImplicit := by rfl)
    (he : starEach (e :: es) X.env = (false, eval e X.env) :: starEach es X.env := by rfl) (hpl : (backTo pos (starEach es X.env)).any (·.1) = false := by rfl) :
    PE X (.Call (.Name "sum" p) (e :: es) [] pos) (tD G.K E (mCB fSum mr)) := by
  obtain rfl := c.g
  exact ce_callB (cr_sum c.calm) rs_sum c hg hm (by decide +kernel) ha (by decide +kernel) (by decide +kernel) he hpl
theorem ce_int1 (c : Cq G k E N sc X) (hm : G.mg "int" = none) (ha : PA X (e :: es) (tAD G.K E mr)) (hg : sc.names.lookup ("int" : Str) = some NameKind.globalImplicit := by rfl)
    (he : starEach (e :: es) X.env = (false, eval e X.env) :: starEach es X.env := by rfl) (hpl : (backTo pos (starEach es X.env)).any (·.1) = false := by rfl) :
    PE X (.Call (.Name "int" p) (e :: es) [] pos) (tD G.K E (mCB fInt1 mr)) := by
  obtain rfl := c.g
  exact ce_callT call_int1 rs_int1 c hg hm (by decide +kernel) ha (by decide +kernel) (by decide +kernel) he hpl
theorem ce_max2 (c : Cq G k E N sc X) (hm : G.mg "max" = none) (ha : PA X (e :: es) (tAD G.K E mr)) (hg : sc.names.lookup ("max" : Str) = some NameKind.globalImplicit := by rfl)
    (he : starEach (e :: es) X.env = (false, eval e X.env) :: starEach es X.env := by rfl) (hpl : (backTo pos (starEach es X.env)).any (·.1) = false := by rfl) :
    PE X (.Call (.Name "max" p) (e :: es) [] pos) (tD G.K E (mCB fMax2 mr)) := by
  obtain rfl := c.g
  exact ce_callB (call_max2 c.calm) rs_max2 c hg hm (by decide +kernel) ha (by decide +kernel) (by decide +kernel) he hpl
theorem ce_repr (c : Cq G k E N sc X) (hm : G.mg "repr" = none) (ha : PA X (e :: es) (tAD G.K E mr)) (hg : sc.names.lookup ("repr" : Str) = some NameKind.globalImplicit := by rfl)
    (he : starEach (e :: es) X.env = (false, eval e X.env) :: starEach es X.env := by rfl) (hpl : (backTo pos (starEach es X.env)).any (·.1) = false := by rfl) :
    PE X (.Call (.Name "repr" p) (e :: es) [] pos) (tD G.K E (mCB fRepr mr)) := by
  obtain rfl := c.g
  exact ce_callB (call_repr_data c.gd (hu64 c.room)) rs_repr c hg hm (by decide +kernel) ha (by decide +kernel) (by decide +kernel) he hpl
/-! ### methods, by the context -/
theorem ce_append (c : Cq G k E N sc X) (ho : PE X o (tD G.K E mo)) (ha : PA X (e :: es) (tAD G.K E mr)) (hbase : attributeBase o "append" X.env (eval o X.env) = eval o X.env := by rfl)
    (hfew : ((backTo cpos (starEach (e :: es) X.env)).all (fun x => !x.1) && (backToKw cpos (keywordEach [] X.env)).all (fun x => x.1.isSome)
      && decide ((e :: es).length + ([] : List Keyword).length + (if ([] : List Keyword).isEmpty then 0 else 1) < 30)) = true := by rfl)
    (hline : (apos.endLine == cpos.line) = true := by rfl) (hs : starEach (e :: es) X.env = (false, eval e X.env) :: starEach es X.env := by rfl) (hplain : (backTo cpos (starEach es X.env)).any (·.1) = false := by rfl) :
    PE X (.Call (.Attribute o "append" apos) (e :: es) [] cpos) (tD G.K E (mMeth isLst fAppend mo mr)) := by
  obtain rfl := c.g
  exact ce_meth PySem.F.plainAttrs_list PySem.F.slot_list_append PySem.F.type_list_append mt_append ty_lst rs_append c ho ha hbase hfew hline hs hplain
theorem ce_popAt (c : Cq G k E N sc X) (ho : PE X o (tD G.K E mo)) (ha : PA X (e :: es) (tAD G.K E mr)) (hbase : attributeBase o "pop" X.env (eval o X.env) = eval o X.env := by rfl)
    (hfew : ((backTo cpos (starEach (e :: es) X.env)).all (fun x => !x.1) && (backToKw cpos (keywordEach [] X.env)).all (fun x => x.1.isSome)
      && decide ((e :: es).length + ([] : List Keyword).length + (if ([] : List Keyword).isEmpty then 0 else 1) < 30)) = true := by rfl)
    (hline : (apos.endLine == cpos.line) = true := by rfl) (hs : starEach (e :: es) X.env = (false, eval e X.env) :: starEach es X.env := by rfl) (hplain : (backTo cpos (starEach es X.env)).any (·.1) = false := by rfl) :
    PE X (.Call (.Attribute o "pop" apos) (e :: es) [] cpos) (tD G.K E (mMeth isLst fPopAt mo mr)) := by
  obtain rfl := c.g
  exact ce_meth PySem.F.plainAttrs_list PySem.F.slot_list_pop PySem.F.type_list_pop mt_popAt ty_lst rs_popAt c ho ha hbase hfew hline hs hplain
theorem ce_pop (c : Cq G k E N sc X) (ho : PE X o (tD G.K E mo)) (hbase : attributeBase o "pop" X.env (eval o X.env) = eval o X.env := by rfl) (hline : (apos.endLine == cpos.line) = true := by rfl) : PE X (.Call (.Attribute o "pop" apos) [] [] cpos) (tD G.K E (mMeth isLst fPop mo mNil)) := by
  obtain rfl := c.g
  exact ce_meth0 PySem.F.plainAttrs_list PySem.F.slot_list_pop PySem.F.type_list_pop mt_pop ty_lst rs_pop c ho hbase hline
theorem ce_join (c : Cq G k E N sc X) (ho : PE X o (tD G.K E mo)) (ha : PA X (e :: es) (tAD G.K E mr)) (hbase : attributeBase o "join" X.env (eval o X.env) = eval o X.env := by rfl)
    (hfew : ((backTo cpos (starEach (e :: es) X.env)).all (fun x => !x.1) && (backToKw cpos (keywordEach [] X.env)).all (fun x => x.1.isSome)
      && decide ((e :: es).length + ([] : List Keyword).length + (if ([] : List Keyword).isEmpty then 0 else 1) < 30)) = true := by rfl)
    (hline : (apos.endLine == cpos.line) = true := by rfl) (hs : starEach (e :: es) X.env = (false, eval e X.env) :: starEach es X.env := by rfl) (hplain : (backTo cpos (starEach es X.env)).any (·.1) = false := by rfl) :
    PE X (.Call (.Attribute o "join" apos) (e :: es) [] cpos) (tD G.K E (mMeth isStr fJoin mo mr)) := by
  obtain rfl := c.g
  exact ce_meth PySem.F.plainAttrs_str PySem.F.slot_str_join PySem.F.type_str_join mt_join ty_str rs_join c ho ha hbase hfew hline hs hplain
theorem ce_update (c : Cq G k E N sc X) (ho : PE X o (tD G.K E mo)) (ha : PA X (e :: es) (tAD G.K E mr)) (hbase : attributeBase o "update" X.env (eval o X.env) = eval o X.env := by rfl)
    (hfew : ((backTo cpos (starEach (e :: es) X.env)).all (fun x => !x.1) && (backToKw cpos (keywordEach [] X.env)).all (fun x => x.1.isSome)
      && decide ((e :: es).length + ([] : List Keyword).length + (if ([] : List Keyword).isEmpty then 0 else 1) < 30)) = true := by rfl)
    (hline : (apos.endLine == cpos.line) = true := by rfl) (hs : starEach (e :: es) X.env = (false, eval e X.env) :: starEach es X.env := by rfl) (hplain : (backTo cpos (starEach es X.env)).any (·.1) = false := by rfl) :
    PE X (.Call (.Attribute o "update" apos) (e :: es) [] cpos) (tD G.K E (mMeth isDic fUpdate mo mr)) := by
  obtain rfl := c.g
  exact ce_meth PySem.F.plainAttrs_dict PySem.F.slot_dict_update PySem.F.type_dict_update mt_update ty_dic rs_update c ho ha hbase hfew hline hs hplain
theorem ce_ty {T : String} {x : Str} (c : Cq G k E N sc X) (hm : G.mg x = none) (hg : sc.names.lookup x = some .globalImplicit) (hv : bootBuiltins x = some (.type T)) (hn : x ≠ "__name__" := by decide +kernel) (hd : (x == ("__debug__" : Str)) = false := by decide +kernel) : PE X (.Name x pos) (tD G.K E (mC (.ty T))) :=
  ce_bltn (v := .ty T) c hg hm hv rfl (fun _ _ => .ty T) hn hd
/-- -1, as it is written -/
theorem ce_neg {i : Int} {j : Nat} {p1 : Pos} : PE X (.UnaryOp .USub (.Constant (.int i) j p1) pos) (tD G.K E (mC (.int (-i)))) := (pe_un un_neg pe_int).imp fun σ H Q ⟨env, L, M, he, hm, q⟩ => ⟨i, rfl, q.end_ hm (.int _)⟩
end
end Ly

namespace Ly
open PySem PySem.Spec PyProof.Rows L2
def visB (sc : Scope) (x : Str) : Bool := match sc.names.lookup x with
  | some .local => true
  | some .cell => true
  | some .free => true
  | _ => false
def locB (sc : Scope) (x : Str) : Bool := match sc.names.lookup x with
  | some .local => true
  | some .cell => true
  | _ => false
theorem vis_by {sc : Scope} {x : Str} (h : visB sc x = true) : Vis sc x := by
  unfold visB at h
  split at h
  · next e => exact .inl e
  · next e => exact .inr (.inl e)
  · next e => exact .inr (.inr e)
  · exact nomatch h
theorem loc_by {sc : Scope} {x : Str} (h : locB sc x = true) : Loc sc x := by
  unfold locB at h
  split at h
  · next e => exact .inl e
  · next e => exact .inr e
  · exact nomatch h
theorem fnT {X : Cx} {x : Str} {sc : Scope} (h : X.fn = fun _ => true) : X.fn x = true ∨ sc.names.lookup x = some NameKind.local := .inl (by rw [h])
theorem fnC {X : Cx} {x : Str} {sc scope : Scope} (h : X.fn = (fun x => scope.names.lookup x == some .cell)) (z : (scope.names.lookup x == some .cell) = true ∨ sc.names.lookup x = some NameKind.local) : X.fn x = true ∨ sc.names.lookup x = some NameKind.local := by
  rcases z with z | z
  · exact .inl (by rw [h]; exact z)
  · exact .inr z
theorem sw_no {elt : Expr} {gs : List Comprehension} {scope : Scope} {pos py : Pos} {y : Str} {l : Nat} {env : PySem.Env} (hy : env.scope.names.lookup y = some .cell) : swapsWith (.ListComp elt gs scope pos) (some (.Name y py)) l env = pure false := by
  have ky : env.kindOf y = some .cell := hy
  unfold swapsWith
  simp only [ky, Expr.pos]
  rw [show (some NameKind.cell == some NameKind.local) = false from rfl, Bool.and_false, Bool.false_and, Bool.false_and]
theorem sw_noD {kx vx : Expr} {gs : List Comprehension} {scope : Scope} {pos py : Pos} {y : Str} {l : Nat} {env : PySem.Env} (hy : env.scope.names.lookup y = some .cell) : swapsWith (.DictComp kx vx gs scope pos) (some (.Name y py)) l env = pure false := by
  have ky : env.kindOf y = some .cell := hy
  unfold swapsWith
  simp only [ky, Expr.pos]
  rw [show (some NameKind.cell == some NameKind.local) = false from rfl, Bool.and_false, Bool.false_and, Bool.false_and]
section
variable {G : Gd} {k : Nat} {E : XK} {N : List Str} {sc : Scope} {X : Cx} {pos spos py : Pos} {i : Nat} {y : Str} {elt kx vx : Expr} {gs : List Comprehension} {scope : Scope} {m : ME}
/-- name = [..] where a comprehension captures the name -/
theorem cs_cellL (c : Cq G k E N sc X) (hf : X.fn = fun _ => true) (hy : N[i]? = some y) (hc : sc.names.lookup y = some NameKind.cell) (h : PE X (.ListComp elt gs scope pos) (tD G.K E m)) : PS X (.Assign [.Name y py] (.ListComp elt gs scope pos) spos) (sD G.K E (mAsg m (gN i))) :=
  cs_set c hy (.inr hc) (fnT hf) h (sw_no (by rw [c.scq]; exact hc))
theorem cs_cellD (c : Cq G k E N sc X) (hf : X.fn = fun _ => true) (hy : N[i]? = some y) (hc : sc.names.lookup y = some NameKind.cell) (h : PE X (.DictComp kx vx gs scope pos) (tD G.K E m)) : PS X (.Assign [.Name y py] (.DictComp kx vx gs scope pos) spos) (sD G.K E (mAsg m (gN i))) :=
  cs_set c hy (.inr hc) (fnT hf) h (sw_noD (by rw [c.scq]; exact hc))
end
section
variable {G : Gd} {k : Nat} {N ps : List Str} {sc : Scope} {x qual : Str} {params : Arguments} {body : List Stmt} {kws : List (Str × V)} {fd : FuncData} {m : MS}
theorem cal_D (F : FunD G.K x qual params body sc [] kws (He.ga G.K x) fd) (S : FnScope N ps sc) (gl : G.mg x = some (.ref (He.ga G.K x)))
    (h : ∀ (kV doc pm : Value) (an : Option Addr) (cdv ct : Value) (us : List Value), us.length = ps.length → bindArgs (PySem.W.fnOf x qual params body sc .none kV doc pm an cdv ct) ⟨us, []⟩ = pure (ps.zip us))
    (hb : ∀ (X : Cx) (E : XK), Cq G k E N sc X → X.fn = (fun _ => true) → PSs X body (sD G.K E m)) : Cal G (k + 1) x ps (callD N.length m) := ⟨⟨fd, fn_okD F S hb, F.bindsN h⟩, F.kp, gl⟩
theorem cal_K (F : FunD G.K x qual params body sc [] kws (He.ga G.K x) fd) (S : FnScope N ps sc) (gl : G.mg x = some (.ref (He.ga G.K x)))
    (h : ∀ (kV doc pm : Value) (an : Option Addr) (cdv ct : Value) (us : List Value), us.length = ps.length → bindArgs (PySem.W.fnOf x qual params body sc .none kV doc pm an cdv ct) ⟨us, []⟩ = pure (ps.zip us))
    (hb : ∀ (X : Cx) (E : XK), Cq G k E N sc X → X.fn = (fun _ => true) → PSs X body (sD G.K E m)) : Cal G (k + 1) x ps (callK N.length m) := ⟨⟨fd, fn_okK F S hb, F.bindsN h⟩, F.kp, gl⟩
end
end Ly

namespace Ly
open PySem PySem.Spec PyProof.Rows L2
/-! ### a law's end: its def over the script's list gives True -/
def scriptD (ns : List Int) : D := .scr (ns.map .int)
theorem ints_isL {K : PySem.W.Frag} {L : Wd} {H : Hp} : ∀ ns : List Int, IsL K L H (ns.map .int) (ns.map V.int)
  | [] => .nil
  | n :: ns => .cons (.int n) (ints_isL ns)
/-- the script's list alone is seen, unless it belongs to the written part -/
def only (K : PySem.W.Frag) (a : Addr) (o : Obj) (ns : List Int) : Hp := fun b => if b = a ∧ K.lookup a = none then some (.frz o (.lst (ns.map V.int))) else none
theorem only_inv {K : PySem.W.Frag} {a b : Addr} {o : Obj} {ns : List Int} {u : HO} (h : only K a o ns b = some u) : b = a ∧ K.lookup a = none ∧ u = .frz o (.lst (ns.map V.int)) := by
  unfold only at h
  split at h
  · next z =>
    cases h
    exact ⟨z.1, z.2, rfl⟩
  · cases h
theorem only_none {K : PySem.W.Frag} {a b : Addr} {o : Obj} {ns : List Int} (h : ¬ (b = a ∧ K.lookup a = none)) : only K a o ns b = none := if_neg h
section
variable {P : Program} {w : World} {K : PySem.W.Frag} {mg mb : Str → Option Value} {k : Nat} {a : Addr} {x y : Str} {s : Shared} {vs : List Value} {ns : List Int} {f : MF}
theorem script_is {o : Obj} (ho : o = { cls := .type "list", data := .seq vs.toArray }) (KX : K.In s.heap) (ha : s.heap.get? a = some o) (hi : IntsAre vs ns) (hl : ns.length ≤ sizeLine) : Is K ⟨[], []⟩ (only K a o ns) (scriptD ns) (.ref a) := by
  cases q : K.lookup a with
  | none => exact .scr (.inr ⟨o, if_pos ⟨rfl, q⟩⟩) ⟨nofun, nofun⟩ (ints_isL ns)
  | some o' =>
    have e := (KX a o' q).symm.trans ha
    cases e
    subst ho
    refine .scrK ⟨_, vs.toArray, _, q, rfl, rfl, rfl, ?_, by simpa using vals_ints hi⟩ (ints_isL ns)
    rw [List.size_toArray, hi.length]
    exact hl
/-- the call -/
theorem law_end (KX : K.In s.heap) (hns : s.heap.Ns mainGlobals mg) (hb : s.heap.Ns builtinsNs mb) (hbb : ∀ z : Str, z ≠ "__name__" → mb z = bootBuiltins z) (hlim : s.heap.NoLimit) (hg : s.gens = #[])
    (ha : s.heap.get? a = some { cls := .type "list", data := .seq vs.toArray }) (hi : IntsAre vs ns) (hl : ns.length ≤ sizeLine) (hr : Room k callerA)
    (F : ∀ base : Heap, K.In base → base.Ns mainGlobals mg → Cal ⟨P, w, K, mg, base⟩ k x [y] f) (ok : ∃ M', f [scriptD ns] [] = .ok (.bl true) M') :
    codeAny (model P w) callerA (.call (.ref (He.ga K x)) ⟨[.ref a], []⟩) (fun r s' => r = .ok (.ret (.bool true)) ∧ OldK s.heap s'.heap ∧ s'.os = s.os ∧ AllBare s'.gens) s := by
  obtain ⟨o, ho⟩ : ∃ o : Obj, o = { cls := .type "list", data := .seq vs.toArray } := ⟨_, rfl⟩
  rw [← ho] at ha
  obtain ⟨H, hH⟩ : ∃ H, H = only K a o ns := ⟨_, rfl⟩
  have good : HOk P w H s.heap := fun b u z => by
    rw [hH] at z
    obtain ⟨rfl, _, rfl⟩ := only_inv z
    exact ⟨ha, by rw [List.length_map]; exact hl, vs, _, vals_ints hi, by rw [ha, ho]⟩
  have dictFree : ∀ {b : Addr} {m : Str → Option Value}, s.heap.Ns b m → (hidT s.heap H).Ns b m := fun {b m} ⟨ob, es, ep, e, d, r⟩ => by
    refine ⟨ob, es, ep, hidT_get e ?_, d, r⟩
    rw [hH]
    refine only_none fun z => ?_
    obtain ⟨rfl, _⟩ := z
    rw [ha] at e
    cases e
    rw [ho] at d
    cases (show Data.seq vs.toArray _ = Data.dict es ep from d)
  have written : K.In (hidT s.heap H) := fun b ob e => hidT_get (KX b ob e) (by
    rw [hH]
    refine only_none fun z => ?_
    obtain ⟨rfl, z⟩ := z
    rw [z] at e
    cases e)
  have ground : Mod K mg (hidT s.heap H) := ⟨written, dictFree hns, ⟨mb, dictFree hb, hbb⟩, let ⟨mc, h1, h2⟩ := hlim; ⟨mc, dictFree h1, h2⟩⟩
  have env0 : Env0 P w K mg (hidT s.heap H) callerA [] s H := ⟨rfl, ground, fun b ob e => of_hidT e, Nat.le_of_eq (hidT_size _ _), trivial, fun b z => (nomatch (show b ∈ ([] : List Addr) from z)), good, .of_eq hg⟩
  obtain ⟨fd, run, bind⟩ := (F _ written (dictFree hns)).ex
  obtain ⟨M', ok⟩ := ok
  have given := bind s [.ref a] KX rfl
  have want : spD K 1 f [.ref a] H (fun v _ => v = .bl true) fun _ _ _ => False := by
    refine ⟨[scriptD ns], ⟨[], []⟩, [], rfl, .cons (by rw [hH]; exact script_is ho KX ha hi hl) .nil, ⟨rfl, .nil, fun n b c e => (nomatch (show (none : Option Addr) = some b from e)), fun b z => (nomatch (show b ∈ ([] : List Addr) from z))⟩, ?_⟩
    rw [ok]
    intro L' H' v _ _ r
    cases r
    rfl
  refine codeAny_mono (run callerA [] s H ⟨[.ref a], []⟩ [.ref a] [.ref a] _ _ hr rfl env0 given (.cons rfl .nil) rfl want) fun r s' out => ?_
  match r, out with
  | .error e, out =>
    obtain ⟨_, _, _, _, _, _, _, _, _, _, _, _, no⟩ := out
    exact no.elim
  | .ok (.ret u), out =>
    obtain ⟨v, H', os, bare, un, good', rv, rfl⟩ := out
    obtain rfl : u = Value.bool true := rv
    refine ⟨rfl, OldK.of_keep fun b ob e => ?_, os, bare⟩
    by_cases z : b = a ∧ K.lookup a = none
    · obtain ⟨rfl, z⟩ := z
      rw [ha] at e
      cases e
      exact (good' b _ (un.frzs b o _ (by rw [hH]; exact if_pos ⟨rfl, z⟩))).1
    · exact un.keep b ob e (by rw [hH]; exact only_none z) (fun z => nomatch (show b ∈ ([] : List Addr) from z)) (fun z => nomatch (show b ∈ ([] : List Addr) from z))
end
/-- a law over a head by facts: the def over data answers True at every script -/
theorem walk_data {l : PySem.W.OpenLaw} {n k : Nat} {q : Program} {loose : List Str} {XP : (Str → Option Value) → Heap → Prop} {YP : World → Heap → Prop} {d : DefRec} {x y : Str} {f : MF}
    (hn : l.most = some n) (hn2 : n ≤ sizeLine) (hdf : d.params.defaults = []) (hr : Room k callerA)
    (F : ∀ (w : World) (mg : Str → Option Value) (fa : Addr) (h : Heap), YP w h → h.Ns mainGlobals mg → mg d.name = some (.ref fa) →
      ∃ K : PySem.W.Frag, K.In h ∧ fa = He.ga K x ∧ ∀ base : Heap, K.In base → base.Ns mainGlobals mg → Cal ⟨l.prog, w, K, mg, base⟩ k x [y] f)
    (ok : ∀ ns : List Int, ns.length ≤ n → (∀ z ∈ ns, Builtin.Int.intBits z ≤ 1048576) → ∃ M', f [scriptD ns] [] = .ok (.bl true) M') :
    PySem.W.WalkO q loose XP YP l.row.toRowW d [] (fun f vs => PySem.call f vs) := by
  refine Att.attach_callB hn hdf fun w s₀ s₁ mg mb fa o pm cd doc a vs ns G Y ho hd hcd hmg hobj hints hlen hbits hg => ?_
  obtain ⟨K, KX, rfl, C⟩ := F w mg fa _ Y G.T.g hmg
  exact law_end KX G.T.g G.T.b G.T.builtins G.T.nolimit hg hobj hints (Nat.le_trans hlen hn2) hr C (ok ns hlen hbits)
end Ly

namespace Ly
open PySem PySem.Spec PyProof.Rows L2
/-! ### reckoning with the functions: what a result must satisfy -/
def Go {α : Type} (r : Res α) (Q : α → Mem → Prop) : Prop := match r with
  | .ok a M => Q a M
  | _ => False
/-- Q: it goes on; R: it returns -/
def GoS (r : ResS) (Q : Env → Mem → Prop) (R : D → Mem → Prop) : Prop := match r with
  | .nx e M => Q e M
  | .rt d M => R d M
  | _ => False
theorem Go.ok {α : Type} {r : Res α} {Q : α → Mem → Prop} (h : Go r Q) : ∃ a M, r = .ok a M ∧ Q a M := by
  cases r with
  | ok a M => exact ⟨a, M, rfl, h⟩
  | exc x M => exact h.elim
  | bad => exact h.elim
theorem Go.of {α : Type} {r : Res α} {Q : α → Mem → Prop} {a : α} {M : Mem} (e : r = .ok a M) (h : Q a M) : Go r Q := by
  rw [e]
  exact h
theorem Go.imp {α : Type} {r : Res α} {Q Q' : α → Mem → Prop} (h : Go r Q) (i : ∀ a M, Q a M → Q' a M) : Go r Q' := by
  cases r with
  | ok a M => exact i a M h
  | exc x M => exact h
  | bad => exact h
theorem GoS.imp {r : ResS} {Q Q' : Env → Mem → Prop} {R R' : D → Mem → Prop} (h : GoS r Q R) (i : ∀ a M, Q a M → Q' a M) (j : ∀ a M, R a M → R' a M) : GoS r Q' R' := by
  cases r with
  | nx a M => exact i a M h
  | rt a M => exact j a M h
  | _ => exact h
section
variable {α β : Type} {Q : D → Mem → Prop} {QB : Bool → Mem → Prop} {QL : List D → Mem → Prop} {S : Env → Mem → Prop} {R : D → Mem → Prop} {env : Env} {M : Mem} {a b o : ME} {t u : MT} {r : MA} {s s' : MS} {g : GD}
theorem go_ok {Q : α → Mem → Prop} {x : α} : Go (.ok x M) Q = Q x M := id rfl
theorem go_bad {Q : α → Mem → Prop} : Go (.bad : Res α) Q = False := id rfl
theorem go_bind {Q : β → Mem → Prop} {r : Res α} {f : α → Mem → Res β} : Go (r.bind f) Q = Go r fun x M1 => Go (f x M1) Q := by
  cases r <;> rfl
theorem go_bindS {r : Res α} {f : α → Mem → ResS} : GoS (r.bindS f) S R = Go r fun x M1 => GoS (f x M1) S R := by
  cases r <;> rfl
theorem go_ite {Q : α → Mem → Prop} {c : Prop} [Decidable c] {x y : Res α} : Go (if c then x else y) Q = if c then Go x Q else Go y Q := by
  split <;> rfl
theorem go_iteS {c : Prop} [Decidable c] {x y : ResS} : GoS (if c then x else y) S R = if c then GoS x S R else GoS y S R := by
  split <;> rfl
theorem go_nx : GoS (.nx env M) S R = S env M := id rfl
theorem go_rt {d : D} : GoS (.rt d M) S R = R d M := id rfl
theorem go_var {i : Nat} : Go (mVar i env M) Q = match env[i]? with
    | some (some d) => Q d M
    | _ => False := by
  unfold mVar
  generalize env[i]? = x
  cases x with
  | none => rfl
  | some y => cases y <;> rfl
theorem go_c {d : D} : Go (mC d env M) Q = Q d M := id rfl
theorem go_bin {op : D → D → Mem → Res D} : Go (mBin op a b env M) Q = Go (a env M) fun d M1 => Go (b env M1) fun e M2 => Go (op d e M2) Q := by
  unfold mBin
  rw [go_bind]
  congr 1
  funext d M1
  rw [go_bind]
theorem go_un {op : D → Mem → Res D} : Go (mUn op a env M) Q = Go (a env M) fun d M1 => Go (op d M1) Q := go_bind
theorem go_asB {x : Res D} : Go (asB x) QB = Go x fun d M1 => ∃ c, d = .bl c ∧ QB c M1 := by
  unfold asB
  rw [go_bind]
  congr 1
  funext d M1
  cases d <;> simp [Go]
theorem go_test : Go (mTest a env M) QB = Go (a env M) fun d M1 => ∃ c, d = .bl c ∧ QB c M1 := go_asB
theorem go_andT : Go (mAndT t u env M) QB = Go (t env M) fun c M1 => if c then Go (u env M1) QB else QB false M1 := by
  unfold mAndT
  rw [go_bind]
  congr 1
  funext c M1
  cases c <;> rfl
theorem go_orT : Go (mOrT t u env M) QB = Go (t env M) fun c M1 => if c then QB true M1 else Go (u env M1) QB := by
  unfold mOrT
  rw [go_bind]
  congr 1
  funext c M1
  cases c <;> rfl
theorem go_notT : Go (mNotT t env M) QB = Go (t env M) fun c M1 => QB (!c) M1 := go_bind
theorem go_yes : Go (mYes env M) QB = QB true M := id rfl
theorem go_andV : Go (mAndV a b env M) Q = Go (a env M) fun d M1 => ∃ c, d = .bl c ∧ if c then Go (b env M1) Q else Q (.bl false) M1 := by
  unfold mAndV
  rw [go_bind]
  congr 1
  funext d M1
  cases d <;> simp [Go]
  case bl c => cases c <;> simp
theorem go_if : Go (mIf t a b env M) Q = Go (t env M) fun c M1 => if c then Go (a env M1) Q else Go (b env M1) Q := by
  unfold mIf
  rw [go_bind]
  congr 1
  funext c M1
  cases c <;> rfl
theorem go_nil : Go (mNil env M) QL = QL [] M := id rfl
theorem go_cons : Go (mCons a r env M) QL = Go (a env M) fun d M1 => Go (r env M1) fun ds M2 => QL (d :: ds) M2 := by
  unfold mCons
  rw [go_bind]
  congr 1
  funext d M1
  rw [go_bind]
  rfl
theorem go_tup : Go (mTup r env M) Q = Go (r env M) fun ds M1 => ds.length ≤ 100000 ∧ Q (.tup ds) M1 := by
  unfold mTup
  rw [go_bind]
  congr 1
  funext d M1
  rw [go_ite]
  simp [szOk, Go]
theorem go_lst : Go (mLst r env M) Q = Go (r env M) fun ds M1 => ds.length ≤ 100000 ∧ Q (.lst ds) M1 := by
  unfold mLst
  rw [go_bind]
  congr 1
  funext d M1
  rw [go_ite]
  simp [szOk, Go]
theorem go_lstC : Go (mLstC r env M) Q = Go (r env M) fun ds M1 => ds.length ≤ 100000 ∧ Q (.ref M1.length) (M1 ++ [.lst ds]) := by
  unfold mLstC
  rw [go_bind]
  congr 1
  funext d M1
  rw [go_ite]
  simp [szOk, Go]
theorem go_cb {f : MF} : Go (mCB f r env M) Q = Go (r env M) fun ds M1 => Go (f ds M1) Q := go_bind
theorem go_call {n : Nat} {f : MF} : Go (mCall n f r env M) Q = Go (r env M) fun ds M1 => ds.length = n ∧ Go (f ds M1) Q := by
  unfold mCall
  rw [go_bind]
  congr 1
  funext d M1
  rw [go_ite]
  simp [Go]
theorem go_meth {ty : D → Mem → Bool} {f : MM} : Go (mMeth ty f o r env M) Q = Go (o env M) fun d M1 => ty d M1 = true ∧ Go (r env M1) fun ds M2 => Go (f d ds M2) Q := by
  unfold mMeth
  rw [go_bind]
  congr 1
  funext d M1
  rw [go_ite, go_bind]
  simp [Go]
theorem go_noPart {Q : Option Int → Mem → Prop} : Go (mNoPart env M) Q = Q none M := id rfl
theorem go_part {Q : Option Int → Mem → Prop} : Go (mPart a env M) Q = Go (a env M) fun d M1 => ∃ i, d = .int i ∧ Q (some i) M1 := by
  unfold mPart
  rw [go_bind]
  congr 1
  funext d M1
  cases d <;> simp [Go]
theorem go_sl {lo hi : MO} : Go (mSl a lo hi env M) Q = Go (a env M) fun d M1 => Go (lo env M1) fun l M2 => Go (hi env M2) fun h M3 => Go (opSl d l h M3) Q := by
  unfold mSl
  rw [go_bind]
  congr 1
  funext d M1
  rw [go_bind]
  congr 1
  funext l M2
  rw [go_bind]
theorem go_get : Go (mGet o a b env M) Q = Go (o env M) fun d M1 => isDic d M1 = true ∧ Go (a env M1) fun y M2 => Go (b env M2) fun z M3 => Go (opGet d y z M3) Q := by
  unfold mGet
  rw [go_bind]
  congr 1
  funext d M1
  rw [go_ite, go_bind]
  simp only [go_bind]
  simp [Go]
/-! statements -/
theorem go_seq : GoS (mSeq s s' env M) S R = GoS (s env M) (fun e1 M1 => GoS (s' e1 M1) S R) R := by
  unfold mSeq
  cases s env M <;> rfl
theorem go_next : GoS (mNext env M) S R = S env M := id rfl
theorem go_drop : GoS (mDrop a env M) S R = Go (a env M) fun _ M1 => S env M1 := go_bindS
theorem go_ret : GoS (mRet a env M) S R = Go (a env M) R := go_bindS
theorem go_retN : GoS (mRetN env M) S R = R .non M := id rfl
theorem go_ifS : GoS (mIfS t s s' env M) S R = Go (t env M) fun c M1 => if c then GoS (s env M1) S R else GoS (s' env M1) S R := by
  unfold mIfS
  rw [go_bindS]
  congr 1
  funext c M1
  cases c <;> rfl
theorem go_set {i : Nat} : GoS (mAsg a (gN i) env M) S R = Go (a env M) fun d M1 => S (env.set i (some d)) M1 := go_bindS
theorem go_asg : GoS (mAsg a g env M) S R = Go (a env M) fun d M1 => ∃ e1, g.f d env = some e1 ∧ S e1 M1 := by
  unfold mAsg
  rw [go_bindS]
  congr 1
  funext d M1
  cases g.f d env <;> simp [GoS]
theorem go_setItem : GoS (mSetItem a b o env M) S R = Go (a env M) fun v M1 => Go (b env M1) fun d M2 => Go (o env M2) fun i M3 => ∃ M4, setM M3 d i v = some M4 ∧ S env M4 := by
  unfold mSetItem
  rw [go_bindS]
  congr 1
  funext v M1
  rw [go_bindS]
  congr 1
  funext d M2
  rw [go_bindS]
  congr 1
  funext i M3
  cases setM M3 d i v <;> simp [GoS]
theorem go_for {mi : MI} : GoS (mFor mi g s env M) S R = Go (mi env M) fun t M1 => GoS (loopS g s t.chk t.items env M1) S R := go_bindS
theorem go_lc {mi : MI} {el : ME} {vs : List Nat} : Go (mLc mi g t el vs env M) Q = Go (mi env M) fun it M1 => Go (compL g t el it.chk (wipeD env vs) it.items [] M1) fun ds M2 => Q (.lst ds) M2 := by
  unfold mLc
  rw [go_bind]
  congr 1
  funext it M1
  rw [go_bind]
  rfl
theorem go_dc {kp : Bool} {mi : MI} {ek el : ME} {vs : List Nat} : Go (mDc kp mi g t ek el vs env M) Q = Go (mi env M) fun it M1 => Go (compD g t ek el it.chk (wipeD env vs) it.items [] M1) fun ds M2 => Go (bdD kp ds M2) Q := by
  unfold mDc
  rw [go_bind]
  congr 1
  funext it M1
  rw [go_bind]
theorem go_iter {Q : Itm → Mem → Prop} : Go (mIter a env M) Q = Go (a env M) fun d M1 => ∃ t, itemsOf d M1 = some t ∧ Q t M1 := by
  unfold mIter
  rw [go_bind]
  congr 1
  funext d M1
  cases itemsOf d M1 <;> simp [Go]
theorem go_enum {Q : Itm → Mem → Prop} : Go (mEnum a env M) Q = Go (a env M) fun d M1 => ∃ t, enumOf d M1 = some t ∧ Q t M1 := by
  unfold mEnum
  rw [go_bind]
  congr 1
  funext d M1
  cases enumOf d M1 <;> simp [Go]
theorem go_rng {Q : Itm → Mem → Prop} {f : List D → Mem → Res Itm} : Go (mRng f r env M) Q = Go (r env M) fun ds M1 => Go (f ds M1) Q := go_bind
theorem go_iteC {Q : α → Mem → Prop} {c : Prop} {i : Decidable c} {x : Res α} : Go (@ite _ c i x .bad) Q = (c ∧ Go x Q) := by
  by_cases h : c
  · rw [if_pos h]
    exact propext ⟨fun z => ⟨h, z⟩, fun z => z.2⟩
  · rw [if_neg h]
    exact propext ⟨fun z => z.elim, fun z => h z.1⟩
theorem go_rng1 {Q : Itm → Mem → Prop} {j : Int} : Go (rng1 [.int j] M) Q = (rngOk j ∧ Q ⟨(List.range j.toNat).map fun i => .int (0 + (i : Nat)), fun _ => True⟩ M) := go_iteC
theorem go_rng2 {Q : Itm → Mem → Prop} {i j : Int} : Go (rng2 [.int i, .int j] M) Q = ((rngOk i ∧ rngOk j) ∧ Q ⟨(List.range (j - i).toNat).map fun n => .int (i + (n : Nat)), fun _ => True⟩ M) := go_iteC
theorem go_rng3 {Q : Itm → Mem → Prop} {i j c : Int} : Go (rng3 [.int i, .int j, .int c] M) Q = ((rngOk i ∧ rngOk j ∧ c = -1) ∧ Q ⟨(List.range (i - j).toNat).map fun n => .int (i + (n : Nat) * -1), fun _ => True⟩ M) := go_iteC
theorem go_disp {kp : Bool} {ms : List (ME × ME)} : Go (mDisp kp ms env M) Q = Go (mPairs ms env M) fun ps M1 => ∃ ks, keysOf ps = some ks ∧ ks.length ≤ 15 ∧ Go (bdD kp (mergeD [] ks) M1) Q := by
  unfold mDisp
  rw [go_bind]
  congr 1
  funext ps M1
  cases keysOf ps with
  | none => simp [Go]
  | some ks =>
    simp only [go_ite]
    simp [Go]
theorem go_pnil {Q : List (D × D) → Mem → Prop} : Go (mPairs [] env M) Q = Q [] M := id rfl
theorem go_pcons {Q : List (D × D) → Mem → Prop} {ms : List (ME × ME)} : Go (mPairs ((a, b) :: ms) env M) Q = Go (a env M) fun x M1 => Go (b env M1) fun y M2 => Go (mPairs ms env M2) fun ps M3 => Q ((x, y) :: ps) M3 := by
  rw [show mPairs ((a, b) :: ms) env M = (a env M).bind fun x M1 => (b env M1).bind fun y M2 => (mPairs ms env M2).bind fun ps M3 => .ok ((x, y) :: ps) M3 from rfl, go_bind]
  congr 1
  funext x M1
  rw [go_bind]
  congr 1
  funext y M2
  rw [go_bind]
  rfl
theorem go_bdT {kvs : List (Key × D)} : Go (bdD true kvs M) Q = Q (.ref M.length) (M ++ [.dic kvs]) := id rfl
theorem go_bdF {kvs : List (Key × D)} : Go (bdD false kvs M) Q = Q (.dic kvs) M := id rfl
/-! defs -/
theorem go_callD {n : Nat} {ds : List D} : Go (callD n s ds M) Q = GoS (s (startD n ds) M) (fun _ M' => Go (finish M .non M') Q) fun d M' => Go (finish M d M') Q := by
  unfold callD
  cases s (startD n ds) M <;> try rfl
  case exc x M' =>
    show Go (finishX M x M') Q = False
    unfold finishX
    rw [go_iteC]
    refine propext ⟨fun z => ?_, fun z => z.elim⟩
    have z2 := z.2
    split at z2 <;> exact z2
theorem go_callK {n : Nat} {ds : List D} : Go (callK n s ds M) Q = GoS (s (startD n ds) M) (fun _ M' => Q .non M') Q := by
  unfold callK
  cases s (startD n ds) M <;> rfl
theorem go_finish {d d' : D} {M' : Mem} (h : Laid M M') (e : frzD M.length M' 20 d = some d') (q : Q d' (M'.take M.length)) : Go (finish M d M') Q := by
  unfold finish
  rw [if_pos h, e]
  exact q
/-! loops -/
theorem go_loop {chk : Mem → Prop} (I : List D → Env → Mem → Prop) (step : ∀ d ds env M, I (d :: ds) env M → chk M ∧ ∃ e1, g.f d env = some e1 ∧ GoS (s e1 M) (fun e2 M2 => I ds e2 M2) R) (done : ∀ env M, I [] env M → chk M ∧ S env M) :
    ∀ (ds : List D) (env : Env) (M : Mem), I ds env M → GoS (loopS g s chk ds env M) S R
  | [], env, M, h => by
    obtain ⟨h1, h2⟩ := done env M h
    unfold loopS
    rw [if_pos h1]
    exact h2
  | d :: ds, env, M, h => by
    obtain ⟨h1, e1, h2, h3⟩ := step d ds env M h
    unfold loopS
    rw [if_pos h1, h2]
    show GoS (ResS.loop (s e1 M) fun e1 M1 => loopS g s chk ds e1 M1) S R
    cases q : s e1 M with
    | nx e M =>
      rw [q] at h3
      exact go_loop I step done ds e M h3
    | rt d M =>
      rw [q] at h3
      exact h3
    | _ =>
      rw [q] at h3
      exact h3.elim
theorem go_comp {chk : Mem → Prop} {el : ME} {Q : List D → Mem → Prop} (I : List D → List D → Mem → Prop) (step : ∀ d ds acc M, I (d :: ds) acc M → chk M ∧ ∃ e1, g.f d env = some e1 ∧ Go (t e1 M) fun c M1 => if c then Go (el e1 M1) fun y M2 => acc.length + 1 ≤ 100000 ∧ I ds (acc ++ [y]) M2 else I ds acc M1)
    (done : ∀ acc M, I [] acc M → chk M ∧ Q acc M) : ∀ (ds acc : List D) (M : Mem), I ds acc M → Go (compL g t el chk env ds acc M) Q
  | [], acc, M, h => by
    obtain ⟨h1, h2⟩ := done acc M h
    unfold compL
    rw [if_pos h1]
    exact h2
  | d :: ds, acc, M, h => by
    obtain ⟨h1, e1, h2, h3⟩ := step d ds acc M h
    unfold compL
    rw [if_pos h1, h2]
    obtain ⟨c, M1, q, h3⟩ := h3.ok
    simp only [q, noX, Res.bind]
    cases c with
    | false => exact go_comp I step done ds acc M1 h3
    | true =>
      rw [if_pos rfl] at h3 ⊢
      obtain ⟨y, M2, q2, h4, h5⟩ := h3.ok
      simp only [q2, noX, Res.bind]
      rw [if_pos (show szOk (acc.length + 1) = true from decide_eq_true h4)]
      exact go_comp I step done ds (acc ++ [y]) M2 h5
theorem go_compD {chk : Mem → Prop} {ek el : ME} {Q : List (Key × D) → Mem → Prop} (I : List D → List (Key × D) → Mem → Prop) (step : ∀ d ds acc M, I (d :: ds) acc M → chk M ∧ ∃ e1, g.f d env = some e1 ∧ Go (t e1 M) fun c M1 => if c then Go (ek e1 M1) fun x M2 => Go (el e1 M2) fun y M3 => ∃ ky, keyOf x = some ky ∧ acc.length + 1 ≤ 100000 ∧ I ds (putD acc ky y) M3 else I ds acc M1)
    (done : ∀ acc M, I [] acc M → chk M ∧ Q acc M) : ∀ (ds : List D) (acc : List (Key × D)) (M : Mem), I ds acc M → Go (compD g t ek el chk env ds acc M) Q
  | [], acc, M, h => by
    obtain ⟨h1, h2⟩ := done acc M h
    unfold compD
    rw [if_pos h1]
    exact h2
  | d :: ds, acc, M, h => by
    obtain ⟨h1, e1, h2, h3⟩ := step d ds acc M h
    unfold compD
    rw [if_pos h1, h2]
    obtain ⟨c, M1, q, h3⟩ := h3.ok
    simp only [q, noX, Res.bind]
    cases c with
    | false => exact go_compD I step done ds acc M1 h3
    | true =>
      rw [if_pos rfl] at h3 ⊢
      obtain ⟨x, M2, q2, h4⟩ := h3.ok
      obtain ⟨y, M3, q3, ky, hk, h5, h6⟩ := h4.ok
      simp only [q2, q3, noX, Res.bind, hk]
      rw [if_pos (show szOk (acc.length + 1) = true from decide_eq_true h5)]
      exact go_compD I step done ds (putD acc ky y) M3 h6
end
end Ly

namespace Ly
open PySem PySem.Spec PyProof.Rows L2
section
variable {α β : Type} {Q : D → Mem → Prop} {M : Mem} {i j : Int} {x y : Str} {ds es : List D}
/-! ### operators over data -/
theorem go_opt {Q : β → Mem → Prop} {o : Option α} {f : α → Res β} : Go (match o with | some a => f a | none => .bad) Q = ∃ a, o = some a ∧ Go (f a) Q := by
  cases o <;> simp [Go]
theorem go_addI : Go (opAdd (.int i) (.int j) M) Q = Q (.int (i + j)) M := id rfl
theorem go_addS : Go (opAdd (.str x) (.str y) M) Q = (szOk (x.length + y.length) = true ∧ Q (.str (x ++ y)) M) := go_iteC
theorem go_addT : Go (opAdd (.tup ds) (.tup es) M) Q = (szOk (ds.length + es.length) = true ∧ Q (.tup (ds ++ es)) M) := go_iteC
theorem go_addL : Go (opAdd (.lst ds) (.lst es) M) Q = (szOk (ds.length + es.length) = true ∧ Q (.lst (ds ++ es)) M) := go_iteC
theorem go_subI : Go (opSub (.int i) (.int j) M) Q = Q (.int (i - j)) M := id rfl
theorem go_mulI : Go (opMul (.int i) (.int j) M) Q = (CMulW i j ∧ Q (.int (i * j)) M) := go_iteC
theorem go_mulL : Go (opMul (.lst ds) (.int j) M) Q = ((0 ≤ j ∧ j ≤ 100000 ∧ szOk (ds.length * j.toNat) = true) ∧ Q (.lst (List.replicate j.toNat ds).flatten) M) := go_iteC
theorem go_modI : Go (opMod (.int i) (.int j) M) Q = (j ≠ 0 ∧ Q (.int (i.fmod j)) M) := go_iteC
theorem go_fdivI : Go (opFdiv (.int i) (.int j) M) Q = (CDivN i j ∧ Q (.int (i.fdiv j)) M) := go_iteC
theorem go_powI : Go (opPow (.int i) (.int j) M) Q = (CPow i j ∧ Q (.int (i ^ j.toNat)) M) := go_iteC
theorem go_ltI : Go (opLt (.int i) (.int j) M) Q = Q (.bl (decide (i < j))) M := id rfl
theorem go_leI : Go (opLe (.int i) (.int j) M) Q = Q (.bl (decide (i ≤ j))) M := id rfl
theorem go_gtI : Go (opGt (.int i) (.int j) M) Q = Q (.bl (decide (j < i))) M := id rfl
theorem go_geI : Go (opGe (.int i) (.int j) M) Q = Q (.bl (decide (j ≤ i))) M := id rfl
theorem go_eqI : Go (opEq (.int i) (.int j) M) Q = Q (.bl (decide (i = j))) M := id rfl
theorem go_eqS : Go (opEq (.str x) (.str y) M) Q = Q (.bl (decide (x = y))) M := id rfl
theorem go_neI : Go (opNe (.int i) (.int j) M) Q = Q (.bl (!decide (i = j))) M := id rfl
theorem go_neS : Go (opNe (.str x) (.str y) M) Q = Q (.bl (!decide (x = y))) M := id rfl
theorem go_in {d e : D} : Go (opIn d e M) Q = ∃ b, inM M d e = some b ∧ Q (.bl b) M := by
  unfold opIn
  cases inM M d e <;> simp [Go]
theorem go_notIn {d e : D} : Go (opNotIn d e M) Q = ∃ b, inM M d e = some b ∧ Q (.bl (!b)) M := by
  unfold opNotIn
  cases inM M d e <;> simp [Go]
/-! subscripts -/
theorem go_ixL {n : Nat} (h : M[n]? = some (.lst ds)) : Go (opIx (.ref n) (.int i) M) Q = ∃ v, atI ds i = some v ∧ Q v M := by
  have e : opIx (.ref n) (.int i) M = (match atI ds i with
    | some v => .ok v M
    | none => .bad) := by
    simp only [opIx, dicOf, seqOf, lstOf, h] <;> rfl
  rw [e]
  cases atI ds i <;> simp [Go]
theorem go_ixF : Go (opIx (.lst ds) (.int i) M) Q = ∃ v, atI ds i = some v ∧ Q v M := by
  have e : opIx (.lst ds) (.int i) M = (match atI ds i with
    | some v => .ok v M
    | none => .bad) := rfl
  rw [e]
  cases atI ds i <;> simp [Go]
theorem go_ixT : Go (opIx (.tup ds) (.int i) M) Q = ∃ v, atI ds i = some v ∧ Q v M := by
  have e : opIx (.tup ds) (.int i) M = (match atI ds i with
    | some v => .ok v M
    | none => .bad) := rfl
  rw [e]
  cases atI ds i <;> simp [Go]
theorem go_ixS : Go (opIx (.str x) (.int i) M) Q = (szOk x.length = true ∧ ∃ c, atI x.cps.toList i = some c ∧ Q (.str ⟨#[c]⟩) M) := by
  have e : opIx (.str x) (.int i) M = if szOk x.length then (match atI x.cps.toList i with
    | some c => .ok (.str ⟨#[c]⟩) M
    | none => .bad) else .bad := rfl
  rw [e, go_iteC]
  cases atI x.cps.toList i <;> simp [Go]
theorem go_ixD {kvs : List (Key × D)} {e : D} : Go (opIx (.dic kvs) e M) Q = ∃ v, (keyOf e).bind (valD kvs) = some v ∧ Q v M := by
  have q : opIx (.dic kvs) e M = (match (keyOf e).bind (valD kvs) with
    | some v => .ok v M
    | none => .bad) := rfl
  rw [q]
  cases (keyOf e).bind (valD kvs) <;> simp [Go]
theorem atI_nat {α : Type} {xs : List α} {n : Nat} {a : α} (h : xs[n]? = some a) : atI xs (n : Int) = some a := by
  have hn := (List.getElem?_eq_some_iff.mp h).1
  unfold atI ixN
  rw [if_pos (Int.natCast_nonneg n), if_pos (by exact_mod_cast hn)]
  exact h
theorem atI_of {α : Type} {xs : List α} {i : Int} (h0 : 0 ≤ i) (h : i < xs.length) : ∃ a, xs[i.toNat]? = some a ∧ atI xs i = some a := by
  have hl : i.toNat < xs.length := by omega
  refine ⟨xs[i.toNat], List.getElem?_eq_getElem hl, ?_⟩
  unfold atI ixN
  rw [if_pos h0, if_pos h]
  exact List.getElem?_eq_getElem hl
/-! slices -/
theorem go_slT {lo hi : Option Int} : Go (opSl (.tup ds) lo hi M) Q = Q (.tup (cutD ds lo hi)) M := id rfl
theorem go_slF {lo hi : Option Int} : Go (opSl (.lst ds) lo hi M) Q = Q (.lst (cutD ds lo hi)) M := id rfl
theorem go_slR {lo hi : Option Int} : Go (opSl (.scr ds) lo hi M) Q = Q (.lst (cutD ds lo hi)) M := id rfl
theorem go_slS {lo hi : Option Int} : Go (opSl (.str x) lo hi M) Q = (szOk x.length = true ∧ Q (.str (cutS x lo hi)) M) := go_iteC
theorem go_slC {n : Nat} {lo hi : Option Int} (h : M[n]? = some (.lst ds)) : Go (opSl (.ref n) lo hi M) Q = Q (.lst (cutD ds lo hi)) M := by
  have e : opSl (.ref n) lo hi M = .ok (.lst (cutD ds lo hi)) M := by
    simp only [opSl, lstOf, h]
  rw [e]
  rfl
theorem go_revF : Go (opRev (.lst ds) M) Q = Q (.lst ds.reverse) M := id rfl
theorem go_revCF : Go (opRevC (.lst ds) M) Q = Q (.ref M.length) (M ++ [.lst ds.reverse]) := id rfl
theorem go_revC {n : Nat} (h : M[n]? = some (.lst ds)) : Go (opRev (.ref n) M) Q = Q (.lst ds.reverse) M := by
  have e : opRev (.ref n) M = .ok (.lst ds.reverse) M := by
    simp only [opRev, lstOf, h]
  rw [e]
  rfl
/-! methods -/
theorem go_append {n : Nat} {d : D} (h : M[n]? = some (.lst ds)) : Go (fAppend (.ref n) [d] M) Q = (ds.length + 1 ≤ 100000 ∧ Q .non (M.set n (.lst (ds ++ [d])))) := by
  have e : fAppend (.ref n) [d] M = if szOk (ds.length + 1) then .ok .non (M.set n (.lst (ds ++ [d]))) else .bad := by
    simp only [fAppend, h]
  rw [e, go_iteC]
  simp [szOk, Go]
theorem go_pop {n : Nat} (h : M[n]? = some (.lst ds)) : Go (fPop (.ref n) [] M) Q = ∃ y, ds[ds.length - 1]? = some y ∧ Q y (M.set n (.lst ds.dropLast)) := by
  have e : fPop (.ref n) [] M = (match ds[ds.length - 1]? with
      | some y => .ok y (M.set n (.lst ds.dropLast))
      | none => .bad) := by
    simp only [fPop, h] <;> rfl
  rw [e]
  cases ds[ds.length - 1]? <;> simp [Go]
theorem isLst_ref {n : Nat} (h : M[n]? = some (.lst ds)) : isLst (.ref n) M = true := by
  simp only [isLst, lstOf, h]
  rfl
end
end Ly

namespace Ly
open PySem PySem.Spec PyProof.Rows L2
/-! ### the deck: two cells, ahead of all others -/
def dk (xs : List Int) (s c : Int) (T : Mem) : Mem := .lst (xs.map .int) :: .lst [.ref 0, .int s, .int c] :: T
def DkIs (b : Nat) (T M : Mem) : Prop := ∃ xs s c, M = dk xs s c T ∧ xs.length ≤ 99 ∧ 0 ≤ s ∧ s < 2147483648 ∧ 0 ≤ c ∧ c ≤ b
theorem DkIs.mono {b b' : Nat} {T M : Mem} (h : DkIs b T M) (hb : b ≤ b') : DkIs b' T M := by
  obtain ⟨xs, s, c, e, h0, h1, h2, h3, h4⟩ := h
  exact ⟨xs, s, c, e, h0, h1, h2, h3, by omega⟩
theorem DkIs.push {b : Nat} {T M : Mem} (h : DkIs b T M) (c : Cell) : DkIs b (T ++ [c]) (M ++ [c]) := by
  obtain ⟨xs, s, k, rfl, h⟩ := h
  exact ⟨xs, s, k, rfl, h⟩
theorem DkIs.len {b : Nat} {T M : Mem} (h : DkIs b T M) : M.length = T.length + 2 := by
  obtain ⟨xs, s, k, rfl, h⟩ := h
  rfl
theorem DkIs.get {b : Nat} {T M : Mem} (h : DkIs b T M) (n : Nat) : M[n + 2]? = T[n]? := by
  obtain ⟨xs, s, k, rfl, h⟩ := h
  rfl
theorem DkIs.set {b : Nat} {T M : Mem} (h : DkIs b T M) (n : Nat) (c : Cell) : DkIs b (T.set n c) (M.set (n + 2) c) := by
  obtain ⟨xs, s, k, rfl, h⟩ := h
  exact ⟨xs, s, k, rfl, h⟩
theorem low_ints (k : Nat) : ∀ xs : List Int, lowL k (xs.map .int) = true
  | [] => rfl
  | x :: xs => by
    show (true && lowL k (xs.map .int)) = true
    rw [low_ints k xs]
    rfl
theorem low_strs (k : Nat) : ∀ xs : List Str, lowL k (xs.map .str) = true
  | [] => rfl
  | x :: xs => by
    show (true && lowL k (xs.map .str)) = true
    rw [low_strs k xs]
    rfl
/-- a def that changes the deck alone, and lays cells of its own -/
theorem DkIs.laid {b b' : Nat} {T N M M' : Mem} (h : DkIs b T M) (h' : DkIs b' (T ++ N) M') : Laid M M' ∧ DkIs b' T (M'.take M.length) := by
  obtain ⟨xs, s, k, rfl, _⟩ := h
  obtain ⟨xs', s', k', rfl, h⟩ := h'
  refine ⟨fun i hi => ?_, xs', s', k', ?_, h⟩
  · match i with
    | 0 => exact .inr ⟨_, rfl, low_ints _ _⟩
    | 1 => exact .inr ⟨_, rfl, by show (decide (0 < T.length + 1 + 1) && _) = true; rw [decide_eq_true (by omega)]; rfl⟩
    | i + 2 =>
      refine .inl ?_
      show (T ++ N)[i]? = T[i]?
      exact List.getElem?_append_left (by
        have : i + 2 < T.length + 2 := hi
        omega)
  · show _ :: _ :: (T ++ N).take T.length = _
    rw [List.take_left]
    rfl
theorem go_fin_dk {b b' : Nat} {T N M M' : Mem} {d d' : D} {Q : D → Mem → Prop} (h : DkIs b T M) (h' : DkIs b' (T ++ N) M') (e : frzD M.length M' 20 d = some d') (q : ∀ M2, DkIs b' T M2 → Q d' M2) : Go (finish M d M') Q :=
  go_finish (h.laid h').1 e (q _ (h.laid h').2)
theorem go_fin_dk0 {b b' : Nat} {T M M' : Mem} {d d' : D} {Q : D → Mem → Prop} (h : DkIs b T M) (h' : DkIs b' T M') (e : frzD M.length M' 20 d = some d') (q : ∀ M2, DkIs b' T M2 → Q d' M2) : Go (finish M d M') Q :=
  go_fin_dk (N := []) h (by rw [List.append_nil]; exact h') e q
/-- a def that changes nothing, and lays cells of its own -/
theorem laid_app (M N : Mem) : Laid M (M ++ N) := fun i hi => .inl (List.getElem?_append_left hi)
theorem go_fin_app {M N : Mem} {d d' : D} {Q : D → Mem → Prop} (e : frzD M.length (M ++ N) 20 d = some d') (q : Q d' M) : Go (finish M d (M ++ N)) Q :=
  go_finish (laid_app M N) e (by rw [List.take_left]; exact q)
theorem go_fin_same {M : Mem} {d d' : D} {Q : D → Mem → Prop} (e : frzD M.length M 20 d = some d') (q : Q d' M) : Go (finish M d M) Q :=
  go_finish (fun i hi => .inl rfl) e (by rw [List.take_length]; exact q)
theorem frz_low {k n : Nat} {M : Mem} {d : D} (h : d.low k = true) : frzD k M (n + 1) d = some d := by
  unfold frzD
  rw [if_pos h]
theorem cmulW {i j : Int} (hi : i.natAbs < 2 ^ 200) (hj : j.natAbs < 2 ^ 200) : CMulW i j := by
  have h1 : i.natAbs.log2 ≤ 200 := by
    by_cases z : i.natAbs = 0
    · rw [z]
      decide
    · exact Nat.le_of_lt (Nat.log2_lt z |>.mpr hi)
  have h2 : j.natAbs.log2 ≤ 200 := by
    by_cases z : j.natAbs = 0
    · rw [z]
      decide
    · exact Nat.le_of_lt (Nat.log2_lt z |>.mpr hj)
  unfold CMulW
  omega
/-! built-in functions -/
section
variable {M : Mem} {Q : D → Mem → Prop} {ds : List D} {x : Str} {i j : Int} {b : Bool} {n : Nat}
theorem go_listF : Go (fList [.lst ds] M) Q = Q (.lst ds) M := id rfl
theorem go_listT : Go (fList [.tup ds] M) Q = Q (.lst ds) M := id rfl
theorem go_tupleF : Go (fTuple [.lst ds] M) Q = Q (.tup ds) M := id rfl
theorem go_tupleT : Go (fTuple [.tup ds] M) Q = Q (.tup ds) M := id rfl
theorem go_tupleC (h : M[n]? = some (.lst ds)) : Go (fTuple [.ref n] M) Q = Q (.tup ds) M := by
  have e : fTuple [.ref n] M = .ok (.tup ds) M := by
    simp only [fTuple, lstOf, h]
  rw [e]
  rfl
theorem go_lenF : Go (fLen [.lst ds] M) Q = Q (.int (ds.length : Nat)) M := id rfl
theorem go_lenT : Go (fLen [.tup ds] M) Q = Q (.int (ds.length : Nat)) M := id rfl
theorem go_lenC (h : M[n]? = some (.lst ds)) : Go (fLen [.ref n] M) Q = Q (.int (ds.length : Nat)) M := by
  have e : fLen [.ref n] M = .ok (.int (ds.length : Nat)) M := by
    simp only [fLen, dicOf, seqOf, lstOf, h]
  rw [e]
  rfl
theorem go_lenS : Go (fLen [.str x] M) Q = (szOk x.length = true ∧ Q (.int (x.length : Nat)) M) := go_iteC
theorem go_isiS : Go (fIsi [.str x, .ty "str"] M) Q = Q (.bl true) M := id rfl
theorem go_isiI : Go (fIsi [.int i, .ty "str"] M) Q = Q (.bl false) M := id rfl
theorem go_intI : Go (fInt1 [.int i] M) Q = Q (.int i) M := id rfl
theorem go_intB : Go (fInt1 [.bl b] M) Q = Q (.int (if b then 1 else 0)) M := id rfl
theorem go_maxI : Go (fMax2 [.int i, .int j] M) Q = Q (.int (if j > i then j else i)) M := id rfl
theorem it_lst : itemsOf (.lst ds) M = some ⟨ds, fun _ => True⟩ := id rfl
theorem it_tupD : itemsOf (.tup ds) M = some ⟨ds, fun _ => True⟩ := id rfl
theorem it_strD : itemsOf (.str x) M = some ⟨x.cps.toList.map fun c => .str ⟨#[c]⟩, fun _ => True⟩ := id rfl
theorem en_lst : enumOf (.lst ds) M = some ⟨numbered ds, fun _ => True⟩ := id rfl
theorem en_tup : enumOf (.tup ds) M = some ⟨numbered ds, fun _ => True⟩ := id rfl
theorem fr_gN {d : D} {env : Env} {n : Nat} : (gN n).f d env = some (env.set n (some d)) := id rfl
theorem rngOk_of {i : Int} (h : -1000000 ≤ i) (h2 : i ≤ 1000000) : rngOk i := by
  unfold rngOk
  omega
end
/-! cells at the end -/
theorem at_last (M : Mem) (c : Cell) : (M ++ [c])[M.length]? = some c := by simp
theorem set_last (M : Mem) (c c' : Cell) : (M ++ [c]).set M.length c' = M ++ [c'] := by simp
theorem go_update {M : Mem} {Q : D → Mem → Prop} {n : Nat} {kvs more : List (Key × D)} (h : M[n]? = some (.dic kvs)) : Go (fUpdate (.ref n) [.dic more] M) Q = (szOk (kvs.length + more.length) = true ∧ Q .non (M.set n (.dic (mergeD kvs more)))) := by
  have e : fUpdate (.ref n) [.dic more] M = if szOk (kvs.length + more.length) then .ok .non (M.set n (.dic (mergeD kvs more))) else .bad := by
    simp only [fUpdate, h, dicOf]
  rw [e, go_iteC]
  rfl
theorem isDic_ref {M : Mem} {n : Nat} {kvs : List (Key × D)} (h : M[n]? = some (.dic kvs)) : isDic (.ref n) M = true := by
  simp only [isDic, dicOf, h]
  rfl
theorem isDic_dic {M : Mem} {kvs : List (Key × D)} : isDic (.dic kvs) M = true := rfl
theorem frz_dic {k n : Nat} {M : Mem} {kvs : List (Key × D)} (h : M[k]? = some (.dic kvs)) (hl : lowK k kvs = true) : frzD k M (n + 2) (.ref k) = some (.dic kvs) := by
  have fk : ∀ l : List (Key × D), lowK k l = true → frK (frzD k M (n + 1)) l = some l := by
    intro l
    induction l with
    | nil => exact fun _ => rfl
    | cons d l ih =>
      intro hl
      unfold lowK at hl
      show ((frzD k M (n + 1) d.2).bind fun a => (frK (frzD k M (n + 1)) l).map fun b => (d.1, a) :: b) = _
      rw [frz_low (and_l hl), ih (and_r hl)]
      rfl
  have nl : ¬ (D.ref k).low k = true := by
    unfold D.low
    simp
  unfold frzD
  rw [if_neg nl]
  show (M[k]?).bind (frzC (frzD k M (n + 1))) = _
  rw [h]
  show (frK (frzD k M (n + 1)) kvs).map D.dic = _
  rw [fk kvs hl]
  rfl
theorem frz_lst {k n : Nat} {M : Mem} {ds : List D} (h : M[k]? = some (.lst ds)) (hl : lowL k ds = true) : frzD k M (n + 2) (.ref k) = some (.lst ds) := by
  have fk : ∀ l : List D, lowL k l = true → frL (frzD k M (n + 1)) l = some l := by
    intro l
    induction l with
    | nil => exact fun _ => rfl
    | cons d l ih =>
      intro hl
      unfold lowL at hl
      show ((frzD k M (n + 1) d).bind fun a => (frL (frzD k M (n + 1)) l).map fun b => a :: b) = _
      rw [frz_low (and_l hl), ih (and_r hl)]
      rfl
  have nl : ¬ (D.ref k).low k = true := by
    unfold D.low
    simp
  unfold frzD
  rw [if_neg nl]
  show (M[k]?).bind (frzC (frzD k M (n + 1))) = _
  rw [h]
  show (frL (frzD k M (n + 1)) ds).map D.lst = _
  rw [fk ds hl]
  rfl
/-! a list against the empty one -/
theorem pdAll_ints : ∀ xs : List Int, pdAll (xs.map .int) = some (xs.map .int)
  | [] => rfl
  | x :: xs => by
    show ((pdAll (xs.map .int)).map fun ps => PyData.int x :: ps) = _
    rw [pdAll_ints xs]
    rfl
theorem canLay_ints : ∀ xs : List Int, PyData.canLayAll0 (xs.map .int) = true
  | [] => rfl
  | x :: xs => by
    show (true && PyData.canLayAll0 (xs.map .int)) = true
    rw [canLay_ints xs]
    rfl
theorem depth_ints : ∀ xs : List Int, PyData.depthAll (xs.map .int) = 0
  | [] => rfl
  | x :: xs => by
    show max 0 (PyData.depthAll (xs.map .int)) = 0
    rw [depth_ints xs]
    rfl
theorem go_neE {M : Mem} {n : Nat} {xs : List Int} {Q : D → Mem → Prop} (h : M[n]? = some (.lst (xs.map .int))) : Go (opNe (.ref n) (.lst []) M) Q = Q (.bl (!xs.isEmpty)) M := by
  have e1 : pdM M (.ref n) = some (.list (xs.map .int)) := by
    simp only [pdM, h, pdAll_ints]
    rfl
  have e2 : pdM M (.lst []) = some (.list []) := rfl
  have e3 : eqM M (.ref n) (.lst []) = some xs.isEmpty := by
    have s1 : SeqAt.shaped (.list (xs.map .int)) = true := by
      show (PyData.canLayAll0 (xs.map .int) && decide (PyData.depthAll (xs.map .int) + 1 ≤ 64)) = true
      rw [canLay_ints, depth_ints]
      rfl
    have s2 : SeqAt.shaped (.list []) = true := rfl
    unfold eqM
    rw [e1, e2]
    simp only [s1, s2, Bool.and_self, if_true]
    cases xs <;> rfl
  have e4 : opNe (.ref n) (.lst []) M = .ok (.bl (!xs.isEmpty)) M := by
    unfold opNe
    simp only [e3]
  rw [e4]
  rfl
end Ly

namespace Ly
open PySem PySem.Spec PyProof.Rows L2
/-! ### texts in lists -/
theorem inD_strs (x : Str) : ∀ ys : List Str, inD (.str x) (ys.map .str) = decide (x ∈ ys)
  | [] => rfl
  | y :: ys => by
    show (eqFD (.str y) (.str x) || inD (.str x) (ys.map .str)) = _
    rw [inD_strs x ys]
    show ((y == x) || _) = _
    by_cases h : y = x
    · subst h
      simp
    · have h' : ¬ x = y := fun z => h z.symm
      simp [h, h']
theorem flat_strs : ∀ ys : List Str, (ys.map D.str).all flatD = true
  | [] => rfl
  | y :: ys => by
    show (true && (ys.map D.str).all flatD) = true
    rw [flat_strs ys]
    rfl
theorem in_lst {M : Mem} {x : Str} {ys : List Str} : inM M (.str x) (.lst (ys.map .str)) = some (decide (x ∈ ys)) := by
  show (if flatD (.str x) && (ys.map D.str).all flatD then some (inD (.str x) (ys.map .str)) else none) = _
  rw [flat_strs, inD_strs]
  rfl
theorem in_tup {M : Mem} {x : Str} {ys : List Str} : inM M (.str x) (.tup (ys.map .str)) = some (decide (x ∈ ys)) := by
  show (if flatD (.str x) && (ys.map D.str).all flatD then some (inD (.str x) (ys.map .str)) else none) = _
  rw [flat_strs, inD_strs]
  rfl
theorem in_cell {M : Mem} {n : Nat} {x : Str} {ys : List Str} (h : M[n]? = some (.lst (ys.map .str))) : inM M (.str x) (.ref n) = some (decide (x ∈ ys)) := by
  have e : inM M (.str x) (.ref n) = (if flatD (.str x) && (ys.map D.str).all flatD then some (inD (.str x) (ys.map .str)) else none) := by
    simp only [inM, dicOf, seqOf, lstOf, h]
  rw [e, flat_strs, inD_strs]
  rfl
/-! ### slices -/
theorem cut_from (ds : List D) (n : Nat) : Ly.cutD ds (some (n : Int)) none = ds.drop n := by
  unfold Ly.cutD
  rw [HT.sIx_none, HT.sIx_nat]
  by_cases h : n ≤ ds.length
  · rw [Nat.min_eq_left h, List.take_of_length_le (by rw [List.length_drop]; omega)]
  · have h' : ds.length ≤ n := by omega
    rw [Nat.min_eq_right h', List.drop_eq_nil_of_le h', List.drop_eq_nil_of_le (Nat.le_refl _), List.take_nil]
theorem cut_to (ds : List D) (n : Nat) : Ly.cutD ds none (some (n : Int)) = ds.take n := by
  unfold Ly.cutD
  rw [HT.sIx_none, HT.sIx_nat, List.drop_zero, Nat.sub_zero]
  by_cases h : n ≤ ds.length
  · rw [Nat.min_eq_left h]
  · have h' : ds.length ≤ n := by omega
    rw [Nat.min_eq_right h', List.take_of_length_le h', List.take_of_length_le (Nat.le_refl _)]
/-! ### short texts of plain signs -/
def Nm (n : Nat) (x : Str) : Prop := x.cps.size ≤ n ∧ ∀ c ∈ x.cps.toList, c < 128
theorem Nm.mono {n m : Nat} {x : Str} (h : Nm n x) (hm : n ≤ m) : Nm m x := ⟨Nat.le_trans h.1 hm, h.2⟩
theorem Nm.cut {n : Nat} {x : Str} (h : Nm n x) (lo hi : Option Int) : Nm n (cutS x lo hi) := by
  refine ⟨?_, fun c hc => h.2 c ?_⟩
  · show (List.toArray _).size ≤ n
    rw [List.size_toArray, List.length_take, List.length_drop, Array.length_toList]
    have := h.1
    omega
  · unfold cutS at hc
    rw [List.toList_toArray] at hc
    exact List.mem_of_mem_drop (List.mem_of_mem_take hc)
theorem Nm.app {n m : Nat} {x y : Str} (h : Nm n x) (h' : Nm m y) : Nm (n + m) (x ++ y) := by
  refine ⟨?_, fun c hc => ?_⟩
  · show (x.cps ++ y.cps).size ≤ _
    rw [Array.size_append]
    have := h.1
    have := h'.1
    omega
  · have hc : c ∈ (x.cps ++ y.cps).toList := hc
    rw [Array.toList_append] at hc
    rcases List.mem_append.mp hc with z | z
    · exact h.2 c z
    · exact h'.2 c z
theorem Nm.sz {n : Nat} {x : Str} (h : Nm n x) (hn : n ≤ 100000) : szOk x.length = true := decide_eq_true (Nat.le_trans h.1 hn)
theorem Nm.one {c : Nat} (h : c < 128) : Nm 1 ⟨#[c]⟩ := ⟨Nat.le_refl _, fun d hd => by
  have : d = c := by simpa using hd
  rw [this]
  exact h⟩
theorem Nm.strOk {n : Nat} {x : Str} (h : Nm n x) : PyData.strOk x = true := by
  unfold PyData.strOk
  rw [← Array.all_toList, List.all_eq_true]
  intro c hc
  have := h.2 c hc
  exact decide_eq_true (by omega)
/-! ### counting -/
theorem nodup_len {α : Type} [DecidableEq α] : ∀ (l m : List α), l.Nodup → (∀ x ∈ l, x ∈ m) → l.length ≤ m.length
  | [], m, _, _ => Nat.zero_le _
  | x :: l, m, h, s => by
    have hx := s x List.mem_cons_self
    rw [List.nodup_cons] at h
    have := nodup_len l (m.erase x) h.2 fun y hy => (List.mem_erase_of_ne (fun (z : y = x) => h.1 (by rw [← z]; exact hy))).mpr (s y (List.mem_cons_of_mem _ hy))
    rw [List.length_erase_of_mem hx] at this
    have := List.length_pos_of_mem hx
    rw [List.length_cons]
    omega
theorem fill_len {α : Type} [DecidableEq α] (l m : List α) (hl : l.Nodup) : l.length ≤ m.length + (l.filter fun x => !decide (x ∈ m)).length := by
  have h1 : (l.filter fun x => decide (x ∈ m)).length ≤ m.length := nodup_len _ _ (hl.filter _) fun x hx => of_decide_eq_true (List.mem_filter.mp hx).2
  have h2 : l.length = (l.filter fun x => decide (x ∈ m)).length + (l.filter fun x => !decide (x ∈ m)).length := by
    have e : ∀ k : List α, k.length = (k.filter fun x => decide (x ∈ m)).length + (k.filter fun x => !decide (x ∈ m)).length := by
      intro k
      induction k with
      | nil => rfl
      | cons a k ih =>
        by_cases h : a ∈ m
        · simp [List.filter_cons, h]
          omega
        · simp [List.filter_cons, h]
          omega
    exact e l
  omega
/-! ### signs put together -/
theorem strsOf_map : ∀ xs : List Str, strsOf (xs.map .str) = some xs
  | [] => rfl
  | x :: xs => by
    show (strsOf (xs.map .str)).map (fun ys => x :: ys) = _
    rw [strsOf_map xs]
    rfl
theorem join_signs : ∀ cs : List Nat, (Str.join "" (cs.map fun c => (⟨#[c]⟩ : Str))).cps.toList = cs
  | [] => rfl
  | [c] => rfl
  | c :: d :: cs => by
    show ((⟨#[c]⟩ ++ ("" : Str) ++ Str.join "" ((d :: cs).map fun c => (⟨#[c]⟩ : Str)) : Str)).cps.toList = _
    have e : ∀ x y : Str, (x ++ y).cps.toList = x.cps.toList ++ y.cps.toList := fun x y => Array.toList_append
    rw [e, e, join_signs (d :: cs)]
    rfl
theorem go_joinS {M : Mem} {Q : D → Mem → Prop} {cs : List Nat} (hl : cs.length ≤ 1000) (q : ∀ x : Str, x.cps.toList = cs → Q (.str x) M) : Go (fJoin (.str "") [.lst (cs.map fun c => .str ⟨#[c]⟩)] M) Q := by
  have e1 : (cs.map fun c => D.str ⟨#[c]⟩) = (cs.map fun c => (⟨#[c]⟩ : Str)).map D.str := by rw [List.map_map]; rfl
  have e2 : ∀ l : List Nat, ((l.map fun c => (⟨#[c]⟩ : Str)).map (·.length)).sum = l.length := by
    intro l
    induction l with
    | nil => rfl
    | cons c l ih =>
      rw [List.map_cons, List.map_cons, List.sum_cons, ih, List.length_cons]
      show 1 + _ = _
      omega
  have e3 : fJoin (.str "") [.lst (cs.map fun c => .str ⟨#[c]⟩)] M = .ok (.str (Txt.join "" (cs.map fun c => (⟨#[c]⟩ : Str)))) M := by
    rw [e1]
    have e4 : (seqOf (.lst ((cs.map fun c => (⟨#[c]⟩ : Str)).map D.str)) M).bind strsOf = some (cs.map fun c => (⟨#[c]⟩ : Str)) := strsOf_map _
    unfold fJoin
    simp only [e4]
    rw [if_pos]
    rw [e2, show Str.length "" = 0 from rfl, Nat.mul_zero]
    omega
  rw [e3]
  refine q _ ?_
  rw [show Txt.join "" (cs.map fun c => (⟨#[c]⟩ : Str)) = Str.join "" (cs.map fun c => (⟨#[c]⟩ : Str)) from TL.join_eq "" _]
  exact join_signs cs
/-! ### comprehensions that change nothing -/
theorem go_compP {g : GD} {t : MT} {el : ME} {chk : Mem → Prop} {env : Env} {M : Mem} {Q : List D → Mem → Prop} (p : D → Bool) (e : D → D) (hc : chk M) (ds : List D) (hl : ds.length ≤ 100000)
    (step : ∀ d ∈ ds, ∃ e1, g.f d env = some e1 ∧ Go (t e1 M) fun c M1 => c = p d ∧ M1 = M ∧ (c = true → Go (el e1 M) fun y M2 => y = e d ∧ M2 = M)) (q : Q ((ds.filter p).map e) M) : Go (compL g t el chk env ds [] M) Q := by
  refine go_comp (fun rem acc M' => M' = M ∧ (∀ d ∈ rem, d ∈ ds) ∧ acc.length + rem.length ≤ ds.length ∧ acc ++ (rem.filter p).map e = (ds.filter p).map e) ?_ ?_ ds [] M ⟨rfl, fun _ h => h, by simp, rfl⟩
  · rintro d rem acc M' ⟨rfl, hr, hn, ha⟩
    obtain ⟨e1, h1, h2⟩ := step d (hr d List.mem_cons_self)
    refine ⟨hc, e1, h1, h2.imp fun c M1 ⟨hc1, hM, h3⟩ => ?_⟩
    subst hM
    rw [List.length_cons] at hn
    cases c with
    | false =>
      rw [if_neg Bool.false_ne_true]
      refine ⟨rfl, fun x hx => hr x (List.mem_cons_of_mem _ hx), by omega, ?_⟩
      rw [List.filter_cons, ← hc1, if_neg Bool.false_ne_true] at ha
      exact ha
    | true =>
      rw [if_pos rfl]
      refine (h3 rfl).imp fun y M2 ⟨hy, hM2⟩ => ?_
      subst hM2
      subst hy
      refine ⟨by omega, rfl, fun x hx => hr x (List.mem_cons_of_mem _ hx), by rw [List.length_append, List.length_singleton]; omega, ?_⟩
      rw [List.filter_cons, ← hc1, if_pos rfl, List.map_cons] at ha
      rw [List.append_assoc]
      exact ha
  · rintro acc M' ⟨rfl, hr, hn, ha⟩
    refine ⟨hc, ?_⟩
    rw [List.filter_nil, List.map_nil, List.append_nil] at ha
    rw [ha]
    exact q
end Ly

namespace Ly
open PySem PySem.Spec PyProof.Rows L2
/-! ### plain data: what == and repr take -/
def layB (d : D) : Bool := match pdOf d with
  | some p => p.canLay0 && decide (p.depth ≤ 60)
  | none => false
theorem lay_all : ∀ ds : List D, (∀ d ∈ ds, layB d = true) → ∃ ps, pdAll ds = some ps ∧ PyData.canLayAll0 ps = true ∧ PyData.depthAll ps ≤ 60 ∧ ps.isEmpty = ds.isEmpty
  | [], _ => ⟨[], rfl, rfl, Nat.zero_le _, rfl⟩
  | d :: ds, h => by
    obtain ⟨ps, e, h1, h2, _⟩ := lay_all ds fun x hx => h x (List.mem_cons_of_mem _ hx)
    have hd := h d List.mem_cons_self
    unfold layB at hd
    split at hd
    · next p ep =>
      refine ⟨p :: ps, ?_, ?_, ?_, rfl⟩
      · unfold pdAll
        rw [ep, e]
        rfl
      · show (p.canLay0 && PyData.canLayAll0 ps) = true
        rw [and_l hd, h1]
        rfl
      · show max p.depth (PyData.depthAll ps) ≤ 60
        exact Nat.max_le.mpr ⟨of_decide_eq_true (and_r hd), h2⟩
    · exact nomatch hd
theorem eq_emp {M : Mem} {d : D} {ps : List PyData} (e1 : pdM M d = some (.list ps)) (h1 : PyData.canLayAll0 ps = true) (h2 : PyData.depthAll ps ≤ 60) : eqM M d (.lst []) = some ps.isEmpty := by
  have s1 : SeqAt.shaped (.list ps) = true := by
    show (PyData.canLayAll0 ps && decide (PyData.depthAll ps + 1 ≤ 64)) = true
    rw [h1, decide_eq_true (by omega)]
    rfl
  have s2 : SeqAt.shaped (.list []) = true := rfl
  unfold eqM
  rw [e1, show pdM M (.lst []) = some (.list []) from rfl]
  simp only [s1, s2, Bool.and_self, if_true]
  cases ps <;> rfl
section
variable {M : Mem} {n : Nat} {ds : List D} {Q : D → Mem → Prop}
theorem eqM_cell (h : M[n]? = some (.lst ds)) (hl : ∀ d ∈ ds, layB d = true) : eqM M (.ref n) (.lst []) = some ds.isEmpty := by
  obtain ⟨ps, e, h1, h2, h3⟩ := lay_all ds hl
  rw [← h3]
  refine eq_emp ?_ h1 h2
  simp only [pdM, h, e]
  rfl
theorem eqM_lst (hl : ∀ d ∈ ds, layB d = true) : eqM M (.lst ds) (.lst []) = some ds.isEmpty := by
  obtain ⟨ps, e, h1, h2, h3⟩ := lay_all ds hl
  rw [← h3]
  refine eq_emp ?_ h1 h2
  show (pdAll ds).map PyData.list = _
  rw [e]
  rfl
theorem go_eqC (h : M[n]? = some (.lst ds)) (hl : ∀ d ∈ ds, layB d = true) : Go (opEq (.ref n) (.lst []) M) Q = Q (.bl ds.isEmpty) M := by
  have e : opEq (.ref n) (.lst []) M = .ok (.bl ds.isEmpty) M := by
    unfold opEq
    simp only [eqM_cell h hl]
  rw [e]
  rfl
theorem go_neL (hl : ∀ d ∈ ds, layB d = true) : Go (opNe (.lst ds) (.lst []) M) Q = Q (.bl (!ds.isEmpty)) M := by
  have e : opNe (.lst ds) (.lst []) M = .ok (.bl (!ds.isEmpty)) M := by
    unfold opNe
    simp only [eqM_lst hl]
  rw [e]
  rfl
theorem go_popAt {i : Int} (h : M[n]? = some (.lst ds)) : Go (fPopAt (.ref n) [.int i] M) Q = ((0 ≤ i ∧ i < ds.length ∧ szOk ds.length = true) ∧ ∃ y, ds[i.toNat]? = some y ∧ Q y (M.set n (.lst (ds.eraseIdx i.toNat)))) := by
  have e : fPopAt (.ref n) [.int i] M = if 0 ≤ i ∧ i < ds.length ∧ szOk ds.length = true then (match ds[i.toNat]? with
      | some y => .ok y (M.set n (.lst (ds.eraseIdx i.toNat)))
      | none => .bad) else .bad := by
    simp only [fPopAt, h] <;> rfl
  rw [e, go_iteC]
  cases ds[i.toNat]? <;> simp [Go]
theorem lay_str {k : Nat} {x : Str} (h : Nm k x) : layB (.str x) = true := by
  show (PyData.strOk x && decide (0 ≤ 60)) = true
  rw [h.strOk]
  rfl
end
/-! cells behind the deck's others -/
theorem DkIs.add {b : Nat} {T N M : Mem} (h : DkIs b (T ++ N) M) (c : Cell) : DkIs b (T ++ (N ++ [c])) (M ++ [c]) := by
  have := h.push c
  rw [List.append_assoc] at this
  exact this
theorem DkIs.old {b : Nat} {T N M : Mem} (h : DkIs b (T ++ N) M) {n : Nat} (hn : n < T.length) : M[n + 2]? = T[n]? := by
  rw [h.get, List.getElem?_append_left hn]
theorem DkIs.new {b : Nat} {T N M : Mem} (h : DkIs b (T ++ N) M) (i : Nat) : M[T.length + i + 2]? = N[i]? := by
  rw [h.get, List.getElem?_append_right (by omega), Nat.add_sub_cancel_left]
theorem DkIs.put {b : Nat} {T N M : Mem} (h : DkIs b (T ++ N) M) (i : Nat) (c : Cell) : DkIs b (T ++ N.set i c) (M.set (T.length + i + 2) c) := by
  have := h.set (T.length + i) c
  rw [List.set_append_right _ _ (by omega), Nat.add_sub_cancel_left] at this
  exact this
end Ly

namespace L2
open PySem PySem.Spec PyProof.Rows
/-! ### t[::-1] of a tuple -/
section
variable {prog : Program} {w : World} {A : Around} {E : Value → Shared → Prop} {s : Shared}
theorem adjust_back (n : Nat) : Builtin.Slice.sliceAdjust none none (-1) (n : Int) = ((n : Int) - 1, -1) := by
  unfold Builtin.Slice.sliceAdjust
  simp
theorem places_back (n : Nat) : Builtin.Slice.slicePlaces ((n : Int) - 1) (-1) (-1) = n := by
  unfold Builtin.Slice.slicePlaces
  simp
  split <;> omega
theorem applied_back {sl : Addr} {vl vu vs : Value} {n : Nat} {Q : Int × Int × Nat → Shared → Prop} (hs : s.heap.IsSliceOf sl vl vu vs) (pl : IsPart vl none) (pu : IsPart vu none) (ps : IsPart vs (some (-1)))
    (h : Q ((n : Int) - 1, -1, n) s) : wpAny (model prog w) A (Builtin.Slice.sliceApplied (.ref sl) (pure (n : Int))) Q E s := by
  obtain ⟨o, h1, h2, h3⟩ := id hs
  unfold Builtin.Slice.sliceApplied Builtin.Slice.sliceFields
  refine wpAny_bind (wpAny_bind (wpAny_field h1 h3 (x := vl) rfl (wpAny_bind (wpAny_field h1 h3 (x := vu) rfl (wpAny_bind (wpAny_field h1 h3 (x := vs) rfl (wpAny_pure ?_)))))))
  refine wpAny_bind (HT.slicePart_ ps ?_)
  show wpAny _ _ (if ((-1 : Int) == 0) = true then _ else _) _ _ s
  rw [if_neg (by decide)]
  refine wpAny_bind (HT.slicePart_ pl (wpAny_bind (HT.slicePart_ pu (wpAny_bind (wpAny_pure ?_)))))
  show wpAny _ _ (match Builtin.Slice.sliceAdjust none none (-1) (n : Int) with | (lo, hi) => pure (lo, (-1 : Int), Builtin.Slice.slicePlaces lo hi (-1))) _ _ s
  rw [adjust_back n]
  show wpAny _ _ (pure ((n : Int) - 1, (-1 : Int), Builtin.Slice.slicePlaces ((n : Int) - 1) (-1) (-1))) _ _ s
  rw [places_back]
  exact wpAny_pure h
theorem picked_back (xs : Array Value) : ((List.range xs.size).filterMap fun (m : Nat) => xs[(((xs.size : Int) - 1) + (m : Int) * -1).toNat]?).toArray = xs.toList.reverse.toArray := by
  have e : ∀ m, m < xs.size → xs[(((xs.size : Int) - 1) + (m : Int) * -1).toNat]? = xs[xs.size - 1 - m]? := fun m hm => by
    rw [show (((xs.size : Int) - 1) + (m : Int) * -1).toNat = xs.size - 1 - m by omega]
  have e2 : ((List.range xs.size).filterMap fun (m : Nat) => xs[(((xs.size : Int) - 1) + (m : Int) * -1).toNat]?) = (List.range xs.size).filterMap fun m => xs[xs.size - 1 - m]? := by
    have go : ∀ l : List Nat, (∀ m ∈ l, m < xs.size) → (l.filterMap fun (m : Nat) => xs[(((xs.size : Int) - 1) + (m : Int) * -1).toNat]?) = l.filterMap fun m => xs[xs.size - 1 - m]? := by
      intro l
      induction l with
      | nil => exact fun _ => rfl
      | cons m l ih =>
        intro h
        rw [List.filterMap_cons, List.filterMap_cons, e m (h m List.mem_cons_self), ih fun x hx => h x (List.mem_cons_of_mem _ hx)]
    exact go _ fun m hm => List.mem_range.mp hm
  have e3 : ((List.range xs.size).filterMap fun m => xs[xs.size - 1 - m]?) = ((List.range xs.size).map fun k => xs.size - 1 - k).filterMap (xs[·]?) := by
    rw [List.filterMap_map]
    rfl
  rw [e2, e3, PySem.W.krv_range, List.filterMap_reverse, PySem.W.krv_all]
theorem getItem_back {t sl : Addr} {items : Array Value} {vl vu vs : Value} {Q : Value → Shared → Prop} (ht : IsTup s.heap t items) (hs : s.heap.IsSliceOf sl vl vu vs) (pl : IsPart vl none) (pu : IsPart vu none) (ps : IsPart vs (some (-1)))
    (h : Q (.ref s.heap.objs.size) { s with heap := s.heap.push { cls := .type "tuple", data := .seq items.toList.reverse.toArray } }) (hsz : items.size ≤ sizeLine) : wpAny (model prog w) A (getItem (.ref t) (.ref sl)) Q E s := by
  have fits : sizeOk (.seq items.toList.reverse.toArray) := by
    show items.toList.reverse.toArray.size ≤ sizeLine
    rw [List.size_toArray, List.length_reverse, Array.length_toList]
    exact hsz
  obtain ⟨o, h1, h2, h3⟩ := id hs
  have ty : s.TypeIs (.ref sl) "slice" := ⟨o, h1, h2⟩
  unfold getItem
  try with_reducible refine wpAny_holding ?_
  first | refine wpAny_bind (wpAny_pure ?_) | skip
  refine wpAny_bind (wpAny_sequenceKey ht.typeIs (by decide) ?_)
  refine wpAny_bind (wpAny_callSpecial?_slot (name := Str.ofString "__getitem__") ht.typeIs PyProof.Rows.slot_tuple_getitem
    (wpAny_call_entry PyProof.Rows.slot_tuple_getitem ht.typeIs PyProof.Rows.entry_tuple_getitem ?_ (PyProof.Rows.args_tuple_getitem _ _)))
  show wpAny _ _ (Builtin.Tuple.tupleItemsOf (.ref t) >>= _) _ _ s
  refine wpAny_bind (PyProof.Rows.tupleItemsOf_ ht ?_)
  refine wpAny_bind (wpAny_typeOf ty ?_)
  rw [if_pos (by decide)]
  refine wpAny_bind (applied_back hs pl pu ps ?_)
  have no : ¬ (((((items.size : Int) - 1)) == 0 && (-1 : Int) == 1 && items.size == items.size) = true) := by
    rw [show ((-1 : Int) == 1) = false from rfl, Bool.and_false, Bool.false_and]
    exact Bool.false_ne_true
  show wpAny _ _ (if ((((items.size : Int) - 1)) == 0 && (-1 : Int) == 1 && items.size == items.size) = true then _ else _) _ _ s
  rw [if_neg no, picked_back]
  first
    | exact wpAny_bind (m := Builtin.Tuple.tupleExact _) (wpAny_newObj_type (wpAny_pure ⟨_, rfl, wpAny_pure h⟩) fits)
    | exact wpAny_bind (m := Builtin.Tuple.tupleExact _) (wpAny_newObj_type (wpAny_bind (wpAny_pure (wpAny_pure ⟨_, rfl, wpAny_pure h⟩))) fits)
    | exact wpAny_bind (wpAny_bind (m := Builtin.Tuple.tupleExact _) (wpAny_newObj_type (wpAny_pure (wpAny_pure ⟨_, rfl, wpAny_pure h⟩)) fits))
    | exact wpAny_bind (wpAny_bind (m := Builtin.Tuple.tupleExact _) (wpAny_newObj_type (wpAny_pure ⟨_, rfl, wpAny_pure h⟩) fits))
end
section
variable {X : Cx}
def tRevT (K : PySem.W.Frag) (te : TE) : TE := fun σ H Q => te σ H fun x H1 => ∃ a xs, x = .ref a ∧ SqT K H1 a xs ∧ ∀ p, H1 p = none → Q (.ref p) (upd H1 p (.tup xs.reverse))
theorem pe_revT {e : Expr} {te : TE} {k : Nat} {p1 p2 p3 pos : Pos} (he : PE X e te) : PE X (.Subscript e (.Slice none none (some (.UnaryOp .USub (.Constant (.int 1) k p1) p2)) p3) pos) (tRevT X.K te) := by
  refine ⟨fun pins s σ H Q I h => ?_⟩
  refine Subscript_ (thn (he.run pins s σ H _ I h) fun v s1 ⟨x, H1, I1, r1, a, xs, ex, hx, q⟩ => ?_)
  subst ex
  cases r1
  have step : PO X (some (.UnaryOp .USub (.Constant (.int 1) k p1) p2)) (tPart (tUn (rU fun i => .int (-i)) (tC (.int 1)))) := po_some (pe_un un_neg pe_int)
  refine wpAny_Slice (thn (po_none.run pins s1 σ H1 (fun o H2 => o = none ∧ H2 = H1) I1 ⟨rfl, rfl⟩) fun vl s2 ⟨l, H2, I2, pl, el, e2⟩ => ?_)
  subst el e2
  refine thn (po_none.run pins s2 σ H2 (fun o H3 => o = none ∧ H3 = H2) I2 ⟨rfl, rfl⟩) fun vu s3 ⟨u, H3, I3, pu, eu, e3⟩ => ?_
  subst eu e3
  refine thn (step.run pins s3 σ H3 (fun o H4 => o = some (-1) ∧ H4 = H3) I3 ⟨1, rfl, -1, rfl, rfl, rfl⟩) fun vs s4 ⟨o, H4, I4, ps, eo, e4⟩ => ?_
  subst eo e4
  have I5 : Inv X pins σ H4 { s4 with heap := s4.heap.push { cls := .type "slice", data := .fields #[vl, vu, vs] } } := I4.kept (t' := s4.toks) fun b ob q => Heap.get?_push_of_some _ q
  obtain ⟨its, r, ht, hz⟩ := I5.tuple hx
  have len := r.length
  show wpAny (model X.prog X.w) X.A (subscriptTail e (.Slice none none (some (.UnaryOp .USub (.Constant (.int 1) k p1) p2)) p3) (.ref a) (.ref s4.heap.objs.size)) (EP X pins σ Q) X.xe { s4 with heap := s4.heap.push { cls := .type "slice", data := .fields #[vl, vu, vs] } }
  refine tail_any (ops := [.ref a, .ref s4.heap.objs.size]) ht.typeIs (PyProof.Rows.slot_tuple_getitem.lookup) ?_ (by with_unfolding_all rfl)
  refine getItem_back ht (Heap.IsSliceOf.new _ vl vu vs) pl pu ps ?_ (by rw [List.size_toArray, ← len]; exact hz)
  refine ⟨.ref _, _, I5.laid (t' := s4.toks) (o := .tup xs.reverse) (fun b ob q => Heap.get?_push_of_some _ q) (Nat.le_refl _) ?_, rfl, q _ (I5.hok.fresh (Nat.le_refl _))⟩
  exact ⟨by rw [List.length_reverse]; exact hz, _, r.reverse, IsTup.new _ _⟩
end
end L2
namespace Ly
open PySem PySem.Spec PyProof.Rows L2
section
variable {G : Gd} {k : Nat} {E : XK} {N : List Str} {sc : Scope} {X : Cx} {a : Expr} {ma : ME} {pos : Pos}
def opRevT (d : D) (M : Mem) : Res D := match d with
  | .tup ds => .ok (.tup ds.reverse) M
  | _ => .bad
theorem ce_revT {kk : Nat} {p1 p2 p3 : Pos} (c : Cq G k E N sc X) (ha : PE X a (tD G.K E ma)) : PE X (.Subscript a (.Slice none none (some (.UnaryOp .USub (.Constant (.int 1) kk p1) p2)) p3) pos) (tD G.K E (mUn opRevT ma)) := by
  obtain rfl := c.g
  refine (pe_revT ha).imp fun σ H Q ⟨env, L, M, he, hm, h⟩ => ?_
  refine ⟨env, L, M, he, hm, Fin.imp (Fin.bind h) fun x H1 ⟨d, M1, L1, s1, m1, r1, h1⟩ => ?_⟩
  unfold opRevT at h1
  split at h1
  · obtain ⟨ad, vs, rfl, q, rk⟩ := r1.tup_inv
    exact ⟨ad, vs, rfl, q, new_tup m1 rk.reverse h1⟩
  · exact h1.elim
def opRevA (d : D) (M : Mem) : Res D := match d with
  | .tup ds => .ok (.tup ds.reverse) M
  | d => opRev d M
/-- of a list or a tuple -/
theorem ce_revA {kk : Nat} {p1 p2 p3 : Pos} (c : Cq G k E N sc X) (ha : PE X a (tD G.K E ma)) : PE X (.Subscript a (.Slice none none (some (.UnaryOp .USub (.Constant (.int 1) kk p1) p2)) p3) pos) (tD G.K E (mUn opRevA ma)) := by
  refine ⟨fun pins s σ H Q I ⟨env, L, M, he, hm, h⟩ => ?_⟩
  have both : mUn opRevA ma env M = mUn opRevT ma env M ∨ mUn opRevA ma env M = mUn opRev ma env M := by
    unfold mUn
    cases ma env M with
    | ok d M1 => cases d <;> first | exact .inl rfl | exact .inr rfl
    | exc x M1 => exact .inl rfl
    | bad => exact .inl rfl
  rcases both with e | e
  · exact (ce_revT c ha).run pins s σ H Q I ⟨env, L, M, he, hm, by rw [← e]; exact h⟩
  · exact (ce_rev c ha).run pins s σ H Q I ⟨env, L, M, he, hm, by rw [← e]; exact h⟩
theorem go_revAT {M : Mem} {Q : D → Mem → Prop} {ds : List D} : Go (opRevA (.tup ds) M) Q = Q (.tup ds.reverse) M := id rfl
theorem go_revAL {M : Mem} {Q : D → Mem → Prop} {ds : List D} : Go (opRevA (.lst ds) M) Q = Q (.lst ds.reverse) M := id rfl
theorem go_revAC {M : Mem} {n : Nat} {Q : D → Mem → Prop} {ds : List D} (h : M[n]? = some (.lst ds)) : Go (opRevA (.ref n) M) Q = Q (.lst ds.reverse) M := go_revC h
theorem go_revT {M : Mem} {Q : D → Mem → Prop} {ds : List D} : Go (opRevT (.tup ds) M) Q = Q (.tup ds.reverse) M := id rfl
end
end Ly

namespace Wk17
open PySem PySem.Spec PyProof.Rows L2 Ly
def top (i : Nat) : Stmt := PySem.Challenge.pw_pointhouse_k17_what_hangs_on_what.main.body.getD i (.Pass ⟨0, 0, 0, 0⟩)
/-! ### names_in -/
noncomputable def m_names_in : MS := (mSeq (mAsg (mVar 0) (gStarD 3 2 [(gN 1), (gN 2), (gN 3)]))
  (mRet (mCB fTuple (mCons (mLc (mIter (mVar 3)) (gN 4) (mTest (mCB fIsi (mCons (mVar 4) (mCons (mC (.ty "str")) mNil)))) (mVar 4) [4]) mNil))))
noncomputable def f_names_in : MF := callD 5 m_names_in
theorem sc_names_in : FnScope ["step", "word", "own", "others", "one"] ["step"] (defScope (top 1)) := ⟨rfl, rfl, rfl, by decide +kernel, rfl, by decide +kernel, by decide +kernel⟩
theorem w_names_in {G : Gd} (b_str : G.mg "str" = none) (b_isinstance : G.mg "isinstance" = none) (b_tuple : G.mg "tuple" = none) (X : Cx) (E : XK) (c : Cq G 0 E ["step", "word", "own", "others", "one"] (defScope (top 1)) X) (hf : X.fn = fun _ => true) : PSs X (defBody (top 1)) (sD G.K E m_names_in) := by
  exact (css_cons (cs_asg (ce_var (i := 0) c rfl (vis_by rfl)) (cg_star c (cgs_cons (cg_name (i := 1) c rfl (loc_by rfl) (fnT hf)) (cgs_cons (cg_name (i := 2) c rfl (loc_by rfl) (fnT hf)) (cgs_star (cg_name (i := 3) c rfl (loc_by rfl) (fnT hf)) cgs_nil)))))
  (css_one (cs_ret (ce_tuple c b_tuple (ca_cons (ce_lc (own := [("one", 4)]) c (ci_any c (ce_var (i := 3) c rfl (vis_by rfl))) rfl rfl (fun _ cx hfcx => (cg_name (i := 4) cx rfl (loc_by rfl) (fnC hfcx (by first | exact .inr rfl | exact .inl rfl)))) (fun _ cx => (cts_one (ct_val (ce_isi cx b_isinstance (ca_cons (ce_var (i := 4) cx rfl (vis_by rfl)) (ca_cons (ce_ty cx b_str rfl (by decide +kernel)) ca_nil)))))) (fun _ cx => (ce_var (i := 4) cx rfl (vis_by rfl))) (by decide)) ca_nil)))))
theorem C_names_in {G : Gd} {fd : FuncData} (b_str : G.mg "str" = none) (b_isinstance : G.mg "isinstance" = none) (b_tuple : G.mg "tuple" = none) (F : FunD G.K "names_in" "names_in" (defArgs (top 1)) (defBody (top 1)) (defScope (top 1)) [] [] (He.ga G.K "names_in") fd) (g : G.mg "names_in" = some (.ref (He.ga G.K "names_in"))) : Cal G 1 "names_in" ["step"] f_names_in :=
  cal_D F sc_names_in g (fun _ _ _ _ _ _ us hl => match us, hl with | [_], _ => rfl) (w_names_in b_str b_isinstance b_tuple)
/-! ### hanging -/
noncomputable def m_hanging : MS := (mSeq (mAsg (mLstC mNil) (gN 2))
  (mSeq (mAsg (mDisp true [((mVar 1), (mC (.bl true)))]) (gN 3))
  (mSeq (mFor (mEnum (mVar 0)) (gT [(gN 4), (gN 5)]) (mIfS (mTest (mCB (fBools fun bs => bs.any id) (mCons (mLc (mIter (mCall 1 f_names_in (mCons (mVar 5) mNil))) (gN 6) mYes (mBin opIn (mVar 6) (mVar 3)) [6]) mNil))) (mSeq (mDrop (mMeth isLst fAppend (mVar 2) (mCons (mVar 4) mNil)))
  (mSetItem (mC (.bl true)) (mVar 3) (mBin opIx (mVar 5) (mC (.int 1))))) mNext))
  (mRet (mCB fTuple (mCons (mVar 2) mNil))))))
noncomputable def f_hanging : MF := callD 7 m_hanging
theorem sc_hanging : FnScope ["sketch", "name", "found", "names", "number", "step", "one"] ["sketch", "name"] (defScope (top 2)) := ⟨rfl, rfl, rfl, by decide +kernel, rfl, by decide +kernel, by decide +kernel⟩
theorem w_hanging {G : Gd} (b_enumerate : G.mg "enumerate" = none) (b_any : G.mg "any" = none) (b_tuple : G.mg "tuple" = none) (C_names_in : Cal G 1 "names_in" ["step"] f_names_in) (X : Cx) (E : XK) (c : Cq G 1 E ["sketch", "name", "found", "names", "number", "step", "one"] (defScope (top 2)) X) (hf : X.fn = fun _ => true) : PSs X (defBody (top 2)) (sD G.K E m_hanging) := by
  have hj_names_in : 1 ≤ 1 := by decide
  exact (css_cons (cs_set (i := 2) c rfl (loc_by rfl) (fnT hf) (ce_lstC ca_nil))
  (css_cons (cs_set (i := 3) c rfl (loc_by rfl) (fnT hf) (ce_disp (cps_cons (ce_var (i := 1) c rfl (vis_by rfl)) ce_bl cps_nil)))
  (css_cons (cs_for c (ci_enum c rfl b_enumerate (ce_var (i := 0) c rfl (vis_by rfl))) (cg_tup c (cgs_cons (cg_name (i := 4) c rfl (loc_by rfl) (fnT hf)) (cgs_cons (cg_name (i := 5) c rfl (loc_by rfl) (fnT hf)) cgs_nil))) (css_one (cs_if (ct_val (ce_any c b_any (ca_cons (ce_lc (own := [("one", 6)]) c (ci_any c (ce_call C_names_in hj_names_in c rfl (ca_cons (ce_var (i := 5) c rfl (vis_by rfl)) ca_nil))) rfl rfl (fun _ cx hfcx => (cg_name (i := 6) cx rfl (loc_by rfl) (fnC hfcx (by first | exact .inr rfl | exact .inl rfl)))) (fun _ cx => cts_nil) (fun _ cx => (ce_in cx (ce_var (i := 6) cx rfl (vis_by rfl)) (ce_var (i := 3) cx rfl (vis_by rfl)))) (by decide)) ca_nil))) (css_cons (cs_expr (ce_append c (ce_var (i := 2) c rfl (vis_by rfl)) (ca_cons (ce_var (i := 4) c rfl (vis_by rfl)) ca_nil)))
  (css_one (cs_setItem c ce_bl (ce_var (i := 3) c rfl (vis_by rfl)) (ce_ix c (ce_var (i := 5) c rfl (vis_by rfl)) ce_int)))) css_nil)))
  (css_one (cs_ret (ce_tuple c b_tuple (ca_cons (ce_var (i := 2) c rfl (vis_by rfl)) ca_nil)))))))
theorem C_hanging {G : Gd} {fd : FuncData} (b_enumerate : G.mg "enumerate" = none) (b_any : G.mg "any" = none) (b_tuple : G.mg "tuple" = none) (C_names_in : Cal G 1 "names_in" ["step"] f_names_in) (F : FunD G.K "hanging" "hanging" (defArgs (top 2)) (defBody (top 2)) (defScope (top 2)) [] [] (He.ga G.K "hanging") fd) (g : G.mg "hanging" = some (.ref (He.ga G.K "hanging"))) : Cal G 2 "hanging" ["sketch", "name"] f_hanging :=
  cal_D F sc_hanging g (fun _ _ _ _ _ _ us hl => match us, hl with | [_, _], _ => rfl) (w_hanging b_enumerate b_any b_tuple C_names_in)
/-! ### needed -/
noncomputable def m_needed : MS := (mSeq (mAsg (mDc true (mIter (mVar 1)) (gN 8) mYes (mVar 8) (mC (.bl true)) [8]) (gN 2))
  (mSeq (mAsg (mLstC mNil) (gN 3))
  (mSeq (mFor (mRng rng3 (mCons (mBin opSub (mCB fLen (mCons (mVar 0) mNil)) (mC (.int 1))) (mCons (mC (.int (-1))) (mCons (mC (.int (-1))) mNil)))) (gN 4) (mSeq (mAsg (mBin opIx (mVar 0) (mVar 4)) (gStarD 3 2 [(gN 5), (gN 6), (gN 7)]))
  (mIfS (mTest (mBin opIn (mVar 6) (mVar 2))) (mSeq (mDrop (mMeth isLst fAppend (mVar 3) (mCons (mVar 4) mNil)))
  (mDrop (mMeth isDic fUpdate (mVar 2) (mCons (mDc false (mIter (mCall 1 f_names_in (mCons (mBin opIx (mVar 0) (mVar 4)) mNil))) (gN 9) mYes (mVar 9) (mC (.bl true)) [9]) mNil)))) mNext)))
  (mRet (mCB fTuple (mCons (mUn opRevA (mVar 3)) mNil))))))
noncomputable def f_needed : MF := callD 10 m_needed
theorem sc_needed : FnScope ["sketch", "names", "wanted", "found", "number", "word", "own", "others", "name", "one"] ["sketch", "names"] (defScope (top 3)) := ⟨rfl, rfl, rfl, by decide +kernel, rfl, by decide +kernel, by decide +kernel⟩
theorem w_needed {G : Gd} (b_len : G.mg "len" = none) (b_range : G.mg "range" = none) (b_tuple : G.mg "tuple" = none) (C_names_in : Cal G 1 "names_in" ["step"] f_names_in) (X : Cx) (E : XK) (c : Cq G 1 E ["sketch", "names", "wanted", "found", "number", "word", "own", "others", "name", "one"] (defScope (top 3)) X) (hf : X.fn = fun _ => true) : PSs X (defBody (top 3)) (sD G.K E m_needed) := by
  have hj_names_in : 1 ≤ 1 := by decide
  exact (css_cons (cs_dc (i := 2) (hy := rfl) (hyl := rfl) (own := [("name", 8)]) c (ci_any c (ce_var (i := 1) c rfl (vis_by rfl))) rfl rfl (fun _ cx hfcx => (cg_name (i := 8) cx rfl (loc_by rfl) (fnC hfcx (by first | exact .inr rfl | exact .inl rfl)))) (fun _ cx => cts_nil) (fun _ cx => (ce_var (i := 8) cx rfl (vis_by rfl))) (fun _ cx => ce_bl) (by decide))
  (css_cons (cs_set (i := 3) c rfl (loc_by rfl) (fnT hf) (ce_lstC ca_nil))
  (css_cons (cs_for c (ci_range3 c rfl b_range (ca_cons (ce_sub c (ce_len c b_len (ca_cons (ce_var (i := 0) c rfl (vis_by rfl)) ca_nil)) ce_int) (ca_cons ce_neg (ca_cons ce_neg ca_nil)))) (cg_name (i := 4) c rfl (loc_by rfl) (fnT hf)) (css_cons (cs_asg (ce_ix c (ce_var (i := 0) c rfl (vis_by rfl)) (ce_var (i := 4) c rfl (vis_by rfl))) (cg_star c (cgs_cons (cg_name (i := 5) c rfl (loc_by rfl) (fnT hf)) (cgs_cons (cg_name (i := 6) c rfl (loc_by rfl) (fnT hf)) (cgs_star (cg_name (i := 7) c rfl (loc_by rfl) (fnT hf)) cgs_nil)))))
  (css_one (cs_if (ct_in c (ce_var (i := 6) c rfl (vis_by rfl)) (ce_var (i := 2) c rfl (vis_by rfl))) (css_cons (cs_expr (ce_append c (ce_var (i := 3) c rfl (vis_by rfl)) (ca_cons (ce_var (i := 4) c rfl (vis_by rfl)) ca_nil)))
  (css_one (cs_expr (ce_update c (ce_var (i := 2) c rfl (vis_by rfl)) (ca_cons (ce_dc (own := [("one", 9)]) c (ci_any c (ce_call C_names_in hj_names_in c rfl (ca_cons (ce_ix c (ce_var (i := 0) c rfl (vis_by rfl)) (ce_var (i := 4) c rfl (vis_by rfl))) ca_nil))) rfl rfl (fun _ cx hfcx => (cg_name (i := 9) cx rfl (loc_by rfl) (fnC hfcx (by first | exact .inr rfl | exact .inl rfl)))) (fun _ cx => cts_nil) (fun _ cx => (ce_var (i := 9) cx rfl (vis_by rfl))) (fun _ cx => ce_bl) (by decide)) ca_nil))))) css_nil))))
  (css_one (cs_ret (ce_tuple c b_tuple (ca_cons (ce_revA c (ce_var (i := 3) c rfl (vis_by rfl))) ca_nil)))))))
theorem C_needed {G : Gd} {fd : FuncData} (b_len : G.mg "len" = none) (b_range : G.mg "range" = none) (b_tuple : G.mg "tuple" = none) (C_names_in : Cal G 1 "names_in" ["step"] f_names_in) (F : FunD G.K "needed" "needed" (defArgs (top 3)) (defBody (top 3)) (defScope (top 3)) [] [] (He.ga G.K "needed") fd) (g : G.mg "needed" = some (.ref (He.ga G.K "needed"))) : Cal G 2 "needed" ["sketch", "names"] f_needed :=
  cal_D F sc_needed g (fun _ _ _ _ _ _ us hl => match us, hl with | [_, _], _ => rfl) (w_needed b_len b_range b_tuple C_names_in)
/-! ### _law_deck -/
noncomputable def m__law_deck : MS := (mSeq (mAsg (mCB fList (mCons (mSl (mVar 0) mNoPart (mPart (mC (.int 63)))) mNil)) (gN 1))
  (mSeq (mAsg (mC (.int 69621)) (gN 2))
  (mSeq (mFor (mIter (mVar 1)) (gN 3) (mAsg (mBin opMod (mBin opAdd (mBin opAdd (mBin opMul (mVar 2) (mC (.int 39373))) (mBin opMod (mVar 3) (mC (.int 2147483587)))) (mC (.int 11))) (mC (.int 2147483629))) (gN 2)))
  (mRet (mLstC (mCons (mUn opRevC (mVar 1)) (mCons (mVar 2) (mCons (mC (.int 0)) mNil))))))))
noncomputable def f__law_deck : MF := callK 4 m__law_deck
theorem sc__law_deck : FnScope ["_law_script", "_law_cells", "_law_seed", "_law_cell"] ["_law_script"] (defScope (top 5)) := ⟨rfl, rfl, rfl, by decide +kernel, rfl, by decide +kernel, by decide +kernel⟩
theorem w__law_deck {G : Gd} (b_list : G.mg "list" = none) (X : Cx) (E : XK) (c : Cq G 0 E ["_law_script", "_law_cells", "_law_seed", "_law_cell"] (defScope (top 5)) X) (hf : X.fn = fun _ => true) : PSs X (defBody (top 5)) (sD G.K E m__law_deck) := by
  exact (css_cons (cs_set (i := 1) c rfl (loc_by rfl) (fnT hf) (ce_list c b_list (ca_cons (ce_sl c (ce_var (i := 0) c rfl (vis_by rfl)) co_none (co_some ce_int)) ca_nil)))
  (css_cons (cs_set (i := 2) c rfl (loc_by rfl) (fnT hf) ce_int)
  (css_cons (cs_for c (ci_any c (ce_var (i := 1) c rfl (vis_by rfl))) (cg_name (i := 3) c rfl (loc_by rfl) (fnT hf)) (css_one (cs_set (i := 2) c rfl (loc_by rfl) (fnT hf) (ce_mod c (ce_add c (ce_add c (ce_mul c (ce_var (i := 2) c rfl (vis_by rfl)) ce_int) (ce_mod c (ce_var (i := 3) c rfl (vis_by rfl)) ce_int)) ce_int) ce_int))))
  (css_one (cs_ret (ce_lstC (ca_cons (ce_revC c (ce_var (i := 1) c rfl (vis_by rfl))) (ca_cons (ce_var (i := 2) c rfl (vis_by rfl)) (ca_cons ce_int ca_nil)))))))))
theorem C__law_deck {G : Gd} {fd : FuncData} (b_list : G.mg "list" = none) (F : FunD G.K "_law_deck" "_law_deck" (defArgs (top 5)) (defBody (top 5)) (defScope (top 5)) [] [] (He.ga G.K "_law_deck") fd) (g : G.mg "_law_deck" = some (.ref (He.ga G.K "_law_deck"))) : Cal G 1 "_law_deck" ["_law_script"] f__law_deck :=
  cal_K F sc__law_deck g (fun _ _ _ _ _ _ us hl => match us, hl with | [_], _ => rfl) (w__law_deck b_list)
/-! ### _law_draw -/
noncomputable def m__law_draw : MS := (mSeq (mSetItem (mBin opAdd (mBin opIx (mVar 0) (mC (.int 2))) (mC (.int 1))) (mVar 0) (mC (.int 2)))
  (mSeq (mAsg (mBin opIx (mVar 0) (mC (.int 1))) (gN 2))
  (mSeq (mIfS (mTest (mBin opNe (mBin opIx (mVar 0) (mC (.int 0))) (mLst mNil))) (mSeq (mAsg (mMeth isLst fPop (mBin opIx (mVar 0) (mC (.int 0))) mNil) (gN 2))
  (mIfS (mTest (mBin opGe (mVar 2) (mBin opPow (mC (.int 10)) (mC (.int 18))))) (mSeq (mDrop (mMeth isLst fAppend (mBin opIx (mVar 0) (mC (.int 0))) (mCons (mBin opFdiv (mVar 2) (mVar 1)) mNil)))
  (mRet (mBin opMod (mVar 2) (mVar 1)))) mNext)) mNext)
  (mSeq (mAsg (mBin opAdd (mBin opAdd (mBin opMod (mVar 2) (mC (.int 2147483629))) (mBin opMul (mBin opMul (mC (.int 130363)) (mBin opIx (mVar 0) (mC (.int 2)))) (mBin opIx (mVar 0) (mC (.int 2))))) (mBin opIx (mVar 0) (mC (.int 1)))) (gN 3))
  (mSeq (mAsg (mBin opMod (mBin opAdd (mBin opMul (mVar 3) (mC (.int 48271))) (mBin opMul (mC (.int 40692)) (mBin opIx (mVar 0) (mC (.int 2))))) (mC (.int 2147483563))) (gN 3))
  (mSeq (mAsg (mBin opMod (mBin opAdd (mBin opMul (mVar 3) (mVar 3)) (mC (.int 31))) (mC (.int 2147483587))) (gN 3))
  (mRet (mBin opMod (mBin opFdiv (mBin opMod (mBin opMul (mVar 3) (mC (.int 16807))) (mC (.int 2147483647))) (mC (.int 64))) (mVar 1)))))))))
noncomputable def f__law_draw : MF := callD 4 m__law_draw
theorem sc__law_draw : FnScope ["_law_deck_here", "_law_most", "_law_cell", "_law_number"] ["_law_deck_here", "_law_most"] (defScope (top 6)) := ⟨rfl, rfl, rfl, by decide +kernel, rfl, by decide +kernel, by decide +kernel⟩
theorem w__law_draw {G : Gd} (X : Cx) (E : XK) (c : Cq G 0 E ["_law_deck_here", "_law_most", "_law_cell", "_law_number"] (defScope (top 6)) X) (hf : X.fn = fun _ => true) : PSs X (defBody (top 6)) (sD G.K E m__law_draw) := by
  exact (css_cons (cs_setItem c (ce_add c (ce_ix c (ce_var (i := 0) c rfl (vis_by rfl)) ce_int) ce_int) (ce_var (i := 0) c rfl (vis_by rfl)) ce_int)
  (css_cons (cs_set (i := 2) c rfl (loc_by rfl) (fnT hf) (ce_ix c (ce_var (i := 0) c rfl (vis_by rfl)) ce_int))
  (css_cons (cs_if (ct_ne c (ce_ix c (ce_var (i := 0) c rfl (vis_by rfl)) ce_int) (ce_lst ca_nil)) (css_cons (cs_set (i := 2) c rfl (loc_by rfl) (fnT hf) (ce_pop c (ce_ix c (ce_var (i := 0) c rfl (vis_by rfl)) ce_int)))
  (css_one (cs_if (ct_ge c (ce_var (i := 2) c rfl (vis_by rfl)) (ce_pow c ce_int ce_int)) (css_cons (cs_expr (ce_append c (ce_ix c (ce_var (i := 0) c rfl (vis_by rfl)) ce_int) (ca_cons (ce_fdiv c (ce_var (i := 2) c rfl (vis_by rfl)) (ce_var (i := 1) c rfl (vis_by rfl))) ca_nil)))
  (css_one (cs_ret (ce_mod c (ce_var (i := 2) c rfl (vis_by rfl)) (ce_var (i := 1) c rfl (vis_by rfl)))))) css_nil))) css_nil)
  (css_cons (cs_set (i := 3) c rfl (loc_by rfl) (fnT hf) (ce_add c (ce_add c (ce_mod c (ce_var (i := 2) c rfl (vis_by rfl)) ce_int) (ce_mul c (ce_mul c ce_int (ce_ix c (ce_var (i := 0) c rfl (vis_by rfl)) ce_int)) (ce_ix c (ce_var (i := 0) c rfl (vis_by rfl)) ce_int))) (ce_ix c (ce_var (i := 0) c rfl (vis_by rfl)) ce_int)))
  (css_cons (cs_set (i := 3) c rfl (loc_by rfl) (fnT hf) (ce_mod c (ce_add c (ce_mul c (ce_var (i := 3) c rfl (vis_by rfl)) ce_int) (ce_mul c ce_int (ce_ix c (ce_var (i := 0) c rfl (vis_by rfl)) ce_int))) ce_int))
  (css_cons (cs_set (i := 3) c rfl (loc_by rfl) (fnT hf) (ce_mod c (ce_add c (ce_mul c (ce_var (i := 3) c rfl (vis_by rfl)) (ce_var (i := 3) c rfl (vis_by rfl))) ce_int) ce_int))
  (css_one (cs_ret (ce_mod c (ce_fdiv c (ce_mod c (ce_mul c (ce_var (i := 3) c rfl (vis_by rfl)) ce_int) ce_int) ce_int) (ce_var (i := 1) c rfl (vis_by rfl)))))))))))
theorem C__law_draw {G : Gd} {fd : FuncData} (F : FunD G.K "_law_draw" "_law_draw" (defArgs (top 6)) (defBody (top 6)) (defScope (top 6)) [] [] (He.ga G.K "_law_draw") fd) (g : G.mg "_law_draw" = some (.ref (He.ga G.K "_law_draw"))) : Cal G 1 "_law_draw" ["_law_deck_here", "_law_most"] f__law_draw :=
  cal_D F sc__law_draw g (fun _ _ _ _ _ _ us hl => match us, hl with | [_, _], _ => rfl) (w__law_draw)
/-! ### _law_pick -/
noncomputable def m__law_pick : MS := (mRet (mBin opIx (mVar 1) (mCall 2 f__law_draw (mCons (mVar 0) (mCons (mCB fLen (mCons (mVar 1) mNil)) mNil)))))
noncomputable def f__law_pick : MF := callD 2 m__law_pick
theorem sc__law_pick : FnScope ["_law_deck_here", "_law_some"] ["_law_deck_here", "_law_some"] (defScope (top 7)) := ⟨rfl, rfl, rfl, by decide +kernel, rfl, by decide +kernel, by decide +kernel⟩
theorem w__law_pick {G : Gd} (b_len : G.mg "len" = none) (C__law_draw : Cal G 1 "_law_draw" ["_law_deck_here", "_law_most"] f__law_draw) (X : Cx) (E : XK) (c : Cq G 1 E ["_law_deck_here", "_law_some"] (defScope (top 7)) X) (hf : X.fn = fun _ => true) : PSs X (defBody (top 7)) (sD G.K E m__law_pick) := by
  have hj__law_draw : 1 ≤ 1 := by decide
  exact (css_one (cs_ret (ce_ix c (ce_var (i := 1) c rfl (vis_by rfl)) (ce_call C__law_draw hj__law_draw c rfl (ca_cons (ce_var (i := 0) c rfl (vis_by rfl)) (ca_cons (ce_len c b_len (ca_cons (ce_var (i := 1) c rfl (vis_by rfl)) ca_nil)) ca_nil))))))
theorem C__law_pick {G : Gd} {fd : FuncData} (b_len : G.mg "len" = none) (C__law_draw : Cal G 1 "_law_draw" ["_law_deck_here", "_law_most"] f__law_draw) (F : FunD G.K "_law_pick" "_law_pick" (defArgs (top 7)) (defBody (top 7)) (defScope (top 7)) [] [] (He.ga G.K "_law_pick") fd) (g : G.mg "_law_pick" = some (.ref (He.ga G.K "_law_pick"))) : Cal G 2 "_law_pick" ["_law_deck_here", "_law_some"] f__law_pick :=
  cal_D F sc__law_pick g (fun _ _ _ _ _ _ us hl => match us, hl with | [_, _], _ => rfl) (w__law_pick b_len C__law_draw)
/-! ### _law_names -/
noncomputable def m__law_names : MS := (mSeq (mAsg (mC (.str "abcdefghijklmnopqrstuvwxyz")) (gN 1))
  (mSeq (mAsg (mCall 2 f__law_draw (mCons (mVar 0) (mCons (mC (.int 4)) mNil))) (gN 2))
  (mSeq (mAsg (mCall 2 f__law_draw (mCons (mVar 0) (mCons (mC (.int 8)) mNil))) (gN 3))
  (mSeq (mAsg (mMeth isStr fJoin (mC (.str "")) (mCons (mLc (mRng rng1 (mCons (mC (.int 8)) mNil)) (gN 6) mYes (mBin opIx (mVar 1) (mCall 2 f__law_draw (mCons (mVar 0) (mCons (mC (.int 26)) mNil)))) [6]) mNil)) (gN 4))
  (mSeq (mIfS (mTest (mBin opEq (mVar 2) (mC (.int 0)))) (mRet (mLc (mRng rng1 (mCons (mC (.int 16)) mNil)) (gN 6) mYes (mBin opIx (mVar 1) (mBin opMod (mBin opAdd (mVar 3) (mBin opMul (mC (.int 5)) (mVar 6))) (mC (.int 26)))) [6])) mNext)
  (mSeq (mIfS (mTest (mBin opEq (mVar 2) (mC (.int 1)))) (mSeq (mAsg (mLst (mCons (mC (.str "line")) (mCons (mC (.str "free")) (mCons (mC (.str "at")) (mCons (mC (.str "row")) (mCons (mC (.str "on")) (mCons (mC (.str "circle")) (mCons (mC (.str "meet")) (mCons (mC (.str "same")) (mCons (mC (.str "holds")) (mCons (mC (.str "a")) (mCons (mC (.str "none")) (mCons (mC (.str "ring")) mNil))))))))))))) (gN 8))
  (mRet (mBin opAdd (mBin opAdd (mSl (mVar 8) (mPart (mVar 3)) mNoPart) (mSl (mVar 8) mNoPart (mPart (mVar 3)))) (mLst (mCons (mC (.str "foot")) (mCons (mC (.str "p")) (mCons (mC (.str "turn")) (mCons (mC (.str "cross")) mNil)))))))) mNext)
  (mSeq (mAsg (mLstC mNil) (gN 5))
  (mSeq (mFor (mRng rng1 (mCons (mC (.int 16)) mNil)) (gN 6) (mIfS (mTest (mBin opEq (mVar 2) (mC (.int 2)))) (mDrop (mMeth isLst fAppend (mVar 5) (mCons (mBin opIx (mLst (mCons (mSl (mVar 4) mNoPart (mPart (mBin opAdd (mC (.int 1)) (mBin opMod (mVar 6) (mC (.int 8)))))) (mCons (mBin opAdd (mC (.str "z")) (mSl (mVar 4) mNoPart (mPart (mBin opMod (mVar 6) (mC (.int 8)))))) mNil))) (mBin opFdiv (mVar 6) (mC (.int 8)))) mNil))) (mSeq (mAsg (mBin opIx (mVar 1) (mBin opMod (mBin opAdd (mMeth isStr fIndex (mVar 1) (mCons (mBin opIx (mVar 4) (mVar 3)) mNil)) (mVar 6)) (mC (.int 26)))) (gN 9))
  (mDrop (mMeth isLst fAppend (mVar 5) (mCons (mBin opAdd (mBin opAdd (mSl (mVar 4) mNoPart (mPart (mVar 3))) (mVar 9)) (mSl (mVar 4) (mPart (mBin opAdd (mVar 3) (mC (.int 1)))) mNoPart)) mNil))))))
  (mSeq (mAsg (mLc (mEnum (mVar 5)) (gT [(gN 6), (gN 10)]) (mTest (mBin opNotIn (mVar 10) (mSl (mVar 5) mNoPart (mPart (mVar 6))))) (mVar 10) [6, 10]) (gN 5))
  (mSeq (mAsg (mLst (mCons (mC (.str "qa")) (mCons (mC (.str "qb")) (mCons (mC (.str "qc")) (mCons (mC (.str "qd")) (mCons (mC (.str "qe")) (mCons (mC (.str "qf")) (mCons (mC (.str "qg")) (mCons (mC (.str "qh")) (mCons (mC (.str "qi")) (mCons (mC (.str "qj")) (mCons (mC (.str "qk")) (mCons (mC (.str "ql")) (mCons (mC (.str "qm")) (mCons (mC (.str "qn")) (mCons (mC (.str "qo")) (mCons (mC (.str "qp")) mNil))))))))))))))))) (gN 7))
  (mRet (mSl (mBin opAdd (mVar 5) (mLc (mIter (mVar 7)) (gN 10) (mTest (mBin opNotIn (mVar 10) (mVar 5))) (mVar 10) [10])) mNoPart (mPart (mC (.int 16)))))))))))))))
noncomputable def f__law_names : MF := callD 11 m__law_names
theorem sc__law_names : FnScope ["_law_deck_here", "_law_letters", "_law_way", "_law_at", "_law_word", "_law_found", "_law_k", "_law_more", "_law_some", "_law_letter", "_law_name"] ["_law_deck_here"] (defScope (top 8)) := ⟨rfl, rfl, rfl, by decide +kernel, rfl, by decide +kernel, by decide +kernel⟩
theorem w__law_names {G : Gd} (b_range : G.mg "range" = none) (b_enumerate : G.mg "enumerate" = none) (C__law_draw : Cal G 1 "_law_draw" ["_law_deck_here", "_law_most"] f__law_draw) (X : Cx) (E : XK) (c : Cq G 1 E ["_law_deck_here", "_law_letters", "_law_way", "_law_at", "_law_word", "_law_found", "_law_k", "_law_more", "_law_some", "_law_letter", "_law_name"] (defScope (top 8)) X) (hf : X.fn = fun _ => true) : PSs X (defBody (top 8)) (sD G.K E m__law_names) := by
  have hj__law_draw : 1 ≤ 1 := by decide
  exact (css_cons (cs_set (i := 1) c rfl (loc_by rfl) (fnT hf) ce_str)
  (css_cons (cs_set (i := 2) c rfl (loc_by rfl) (fnT hf) (ce_call C__law_draw hj__law_draw c rfl (ca_cons (ce_var (i := 0) c rfl (vis_by rfl)) (ca_cons ce_int ca_nil))))
  (css_cons (cs_set (i := 3) c rfl (loc_by rfl) (fnT hf) (ce_call C__law_draw hj__law_draw c rfl (ca_cons (ce_var (i := 0) c rfl (vis_by rfl)) (ca_cons ce_int ca_nil))))
  (css_cons (cs_set (i := 4) c rfl (loc_by rfl) (fnT hf) (ce_join c ce_str (ca_cons (ce_lc (own := [("_law_k", 6)]) c (ci_range1 c rfl b_range (ca_cons ce_int ca_nil)) rfl rfl (fun _ cx hfcx => (cg_name (i := 6) cx rfl (loc_by rfl) (fnC hfcx (by first | exact .inr rfl | exact .inl rfl)))) (fun _ cx => cts_nil) (fun _ cx => (ce_ix cx (ce_var (i := 1) cx rfl (vis_by rfl)) (ce_call C__law_draw hj__law_draw cx rfl (ca_cons (ce_var (i := 0) cx rfl (vis_by rfl)) (ca_cons ce_int ca_nil))))) (by decide)) ca_nil)))
  (css_cons (cs_if (ct_eq c (ce_var (i := 2) c rfl (vis_by rfl)) ce_int) (css_one (cs_ret (ce_lc (own := [("_law_k", 6)]) c (ci_range1 c rfl b_range (ca_cons ce_int ca_nil)) rfl rfl (fun _ cx hfcx => (cg_name (i := 6) cx rfl (loc_by rfl) (fnC hfcx (by first | exact .inr rfl | exact .inl rfl)))) (fun _ cx => cts_nil) (fun _ cx => (ce_ix cx (ce_var (i := 1) cx rfl (vis_by rfl)) (ce_mod cx (ce_add cx (ce_var (i := 3) cx rfl (vis_by rfl)) (ce_mul cx ce_int (ce_var (i := 6) cx rfl (vis_by rfl)))) ce_int))) (by decide)))) css_nil)
  (css_cons (cs_if (ct_eq c (ce_var (i := 2) c rfl (vis_by rfl)) ce_int) (css_cons (cs_set (i := 8) c rfl (loc_by rfl) (fnT hf) (ce_lst (ca_cons ce_str (ca_cons ce_str (ca_cons ce_str (ca_cons ce_str (ca_cons ce_str (ca_cons ce_str (ca_cons ce_str (ca_cons ce_str (ca_cons ce_str (ca_cons ce_str (ca_cons ce_str (ca_cons ce_str ca_nil))))))))))))))
  (css_one (cs_ret (ce_add c (ce_add c (ce_sl c (ce_var (i := 8) c rfl (vis_by rfl)) (co_some (ce_var (i := 3) c rfl (vis_by rfl))) co_none) (ce_sl c (ce_var (i := 8) c rfl (vis_by rfl)) co_none (co_some (ce_var (i := 3) c rfl (vis_by rfl))))) (ce_lst (ca_cons ce_str (ca_cons ce_str (ca_cons ce_str (ca_cons ce_str ca_nil))))))))) css_nil)
  (css_cons (cs_set (i := 5) c rfl (loc_by rfl) (fnT hf) (ce_lstC ca_nil))
  (css_cons (cs_for c (ci_range1 c rfl b_range (ca_cons ce_int ca_nil)) (cg_name (i := 6) c rfl (loc_by rfl) (fnT hf)) (css_one (cs_if (ct_eq c (ce_var (i := 2) c rfl (vis_by rfl)) ce_int) (css_one (cs_expr (ce_append c (ce_var (i := 5) c rfl (vis_by rfl)) (ca_cons (ce_ix c (ce_lst (ca_cons (ce_sl c (ce_var (i := 4) c rfl (vis_by rfl)) co_none (co_some (ce_add c ce_int (ce_mod c (ce_var (i := 6) c rfl (vis_by rfl)) ce_int)))) (ca_cons (ce_add c ce_str (ce_sl c (ce_var (i := 4) c rfl (vis_by rfl)) co_none (co_some (ce_mod c (ce_var (i := 6) c rfl (vis_by rfl)) ce_int)))) ca_nil))) (ce_fdiv c (ce_var (i := 6) c rfl (vis_by rfl)) ce_int)) ca_nil)))) (css_cons (cs_set (i := 9) c rfl (loc_by rfl) (fnT hf) (ce_ix c (ce_var (i := 1) c rfl (vis_by rfl)) (ce_mod c (ce_add c (ce_index c (ce_var (i := 1) c rfl (vis_by rfl)) (ca_cons (ce_ix c (ce_var (i := 4) c rfl (vis_by rfl)) (ce_var (i := 3) c rfl (vis_by rfl))) ca_nil)) (ce_var (i := 6) c rfl (vis_by rfl))) ce_int)))
  (css_one (cs_expr (ce_append c (ce_var (i := 5) c rfl (vis_by rfl)) (ca_cons (ce_add c (ce_add c (ce_sl c (ce_var (i := 4) c rfl (vis_by rfl)) co_none (co_some (ce_var (i := 3) c rfl (vis_by rfl)))) (ce_var (i := 9) c rfl (vis_by rfl))) (ce_sl c (ce_var (i := 4) c rfl (vis_by rfl)) (co_some (ce_add c (ce_var (i := 3) c rfl (vis_by rfl)) ce_int)) co_none)) ca_nil))))))))
  (css_cons (cs_cellL (i := 5) c hf rfl rfl (ce_lc (own := [("_law_k", 6), ("_law_name", 10)]) c (ci_enum c rfl b_enumerate (ce_var (i := 5) c rfl (vis_by rfl))) rfl rfl (fun _ cx hfcx => (cg_tup cx (cgs_cons (cg_name (i := 6) cx rfl (loc_by rfl) (fnC hfcx (by first | exact .inr rfl | exact .inl rfl))) (cgs_cons (cg_name (i := 10) cx rfl (loc_by rfl) (fnC hfcx (by first | exact .inr rfl | exact .inl rfl))) cgs_nil)))) (fun _ cx => (cts_one (ct_notIn cx (ce_var (i := 10) cx rfl (vis_by rfl)) (ce_sl cx (ce_var (i := 5) cx rfl (vis_by rfl)) co_none (co_some (ce_var (i := 6) cx rfl (vis_by rfl))))))) (fun _ cx => (ce_var (i := 10) cx rfl (vis_by rfl))) (by decide)))
  (css_cons (cs_set (i := 7) c rfl (loc_by rfl) (fnT hf) (ce_lst (ca_cons ce_str (ca_cons ce_str (ca_cons ce_str (ca_cons ce_str (ca_cons ce_str (ca_cons ce_str (ca_cons ce_str (ca_cons ce_str (ca_cons ce_str (ca_cons ce_str (ca_cons ce_str (ca_cons ce_str (ca_cons ce_str (ca_cons ce_str (ca_cons ce_str (ca_cons ce_str ca_nil))))))))))))))))))
  (css_one (cs_ret (ce_sl c (ce_add c (ce_var (i := 5) c rfl (vis_by rfl)) (ce_lc (own := [("_law_name", 10)]) c (ci_any c (ce_var (i := 7) c rfl (vis_by rfl))) rfl rfl (fun _ cx hfcx => (cg_name (i := 10) cx rfl (loc_by rfl) (fnC hfcx (by first | exact .inr rfl | exact .inl rfl)))) (fun _ cx => (cts_one (ct_notIn cx (ce_var (i := 10) cx rfl (vis_by rfl)) (ce_var (i := 5) cx rfl (vis_by rfl))))) (fun _ cx => (ce_var (i := 10) cx rfl (vis_by rfl))) (by decide))) co_none (co_some ce_int))))))))))))))
theorem C__law_names {G : Gd} {fd : FuncData} (b_range : G.mg "range" = none) (b_enumerate : G.mg "enumerate" = none) (C__law_draw : Cal G 1 "_law_draw" ["_law_deck_here", "_law_most"] f__law_draw) (F : FunD G.K "_law_names" "_law_names" (defArgs (top 8)) (defBody (top 8)) (defScope (top 8)) [] [] (He.ga G.K "_law_names") fd) (g : G.mg "_law_names" = some (.ref (He.ga G.K "_law_names"))) : Cal G 2 "_law_names" ["_law_deck_here"] f__law_names :=
  cal_D F sc__law_names g (fun _ _ _ _ _ _ us hl => match us, hl with | [_], _ => rfl) (w__law_names b_range b_enumerate C__law_draw)
/-! ### _law_forms -/
noncomputable def m__law_forms : MS := (mSeq (mAsg (mDisp true [((mC (.str "free")), (mC (.str ""))), ((mC (.str "on")), (mC (.str "L"))), ((mC (.str "round")), (mC (.str "C"))), ((mC (.str "meet")), (mC (.str "LL"))), ((mC (.str "middle")), (mC (.str "PP"))), ((mC (.str "foot")), (mC (.str "PL"))), ((mC (.str "mirror")), (mC (.str "PL")))]) (gN 0))
  (mSeq (mDrop (mMeth isDic fUpdate (mVar 0) (mCons (mDisp false [((mC (.str "turn")), (mC (.str "PPn"))), ((mC (.str "other")), (mC (.str "LCP"))), ((mC (.str "cross")), (mC (.str "LCk"))), ((mC (.str "line")), (mC (.str "PP"))), ((mC (.str "along")), (mC (.str "PL")))]) mNil)))
  (mSeq (mDrop (mMeth isDic fUpdate (mVar 0) (mCons (mDisp false [((mC (.str "upright")), (mC (.str "PL"))), ((mC (.str "circle")), (mC (.str "PP")))]) mNil)))
  (mRet (mVar 0)))))
noncomputable def f__law_forms : MF := callD 1 m__law_forms
theorem sc__law_forms : FnScope ["_law_found"] [] (defScope (top 9)) := ⟨rfl, rfl, rfl, by decide +kernel, rfl, by decide +kernel, by decide +kernel⟩
theorem w__law_forms {G : Gd} (X : Cx) (E : XK) (c : Cq G 0 E ["_law_found"] (defScope (top 9)) X) (hf : X.fn = fun _ => true) : PSs X (defBody (top 9)) (sD G.K E m__law_forms) := by
  exact (css_cons (cs_set (i := 0) c rfl (loc_by rfl) (fnT hf) (ce_disp (cps_cons ce_str ce_str (cps_cons ce_str ce_str (cps_cons ce_str ce_str (cps_cons ce_str ce_str (cps_cons ce_str ce_str (cps_cons ce_str ce_str (cps_cons ce_str ce_str cps_nil)))))))))
  (css_cons (cs_expr (ce_update c (ce_var (i := 0) c rfl (vis_by rfl)) (ca_cons (ce_disp (cps_cons ce_str ce_str (cps_cons ce_str ce_str (cps_cons ce_str ce_str (cps_cons ce_str ce_str (cps_cons ce_str ce_str cps_nil)))))) ca_nil)))
  (css_cons (cs_expr (ce_update c (ce_var (i := 0) c rfl (vis_by rfl)) (ca_cons (ce_disp (cps_cons ce_str ce_str (cps_cons ce_str ce_str cps_nil))) ca_nil)))
  (css_one (cs_ret (ce_var (i := 0) c rfl (vis_by rfl)))))))
theorem C__law_forms {G : Gd} {fd : FuncData} (F : FunD G.K "_law_forms" "_law_forms" (defArgs (top 9)) (defBody (top 9)) (defScope (top 9)) [] [] (He.ga G.K "_law_forms") fd) (g : G.mg "_law_forms" = some (.ref (He.ga G.K "_law_forms"))) : Cal G 1 "_law_forms" [] f__law_forms :=
  cal_D F sc__law_forms g (fun _ _ _ _ _ _ us hl => match us, hl with | [], _ => rfl) (w__law_forms)
/-! ### _law_sort -/
noncomputable def m__law_sort : MS := (mSeq (mIfS (mTest (mBin opEq (mVar 0) (mC (.str "circle")))) (mRet (mC (.str "C"))) mNext)
  (mRet (mIf (mTest (mBin opIn (mVar 0) (mTup (mCons (mC (.str "line")) (mCons (mC (.str "along")) (mCons (mC (.str "upright")) mNil)))))) (mC (.str "L")) (mC (.str "P")))))
noncomputable def f__law_sort : MF := callD 1 m__law_sort
theorem sc__law_sort : FnScope ["_law_word"] ["_law_word"] (defScope (top 10)) := ⟨rfl, rfl, rfl, by decide +kernel, rfl, by decide +kernel, by decide +kernel⟩
theorem w__law_sort {G : Gd} (X : Cx) (E : XK) (c : Cq G 0 E ["_law_word"] (defScope (top 10)) X) (hf : X.fn = fun _ => true) : PSs X (defBody (top 10)) (sD G.K E m__law_sort) := by
  exact (css_cons (cs_if (ct_eq c (ce_var (i := 0) c rfl (vis_by rfl)) ce_str) (css_one (cs_ret ce_str)) css_nil)
  (css_one (cs_ret (ce_if (ct_in c (ce_var (i := 0) c rfl (vis_by rfl)) (ce_tup (ca_cons ce_str (ca_cons ce_str (ca_cons ce_str ca_nil))))) ce_str ce_str))))
theorem C__law_sort {G : Gd} {fd : FuncData} (F : FunD G.K "_law_sort" "_law_sort" (defArgs (top 10)) (defBody (top 10)) (defScope (top 10)) [] [] (He.ga G.K "_law_sort") fd) (g : G.mg "_law_sort" = some (.ref (He.ga G.K "_law_sort"))) : Cal G 1 "_law_sort" ["_law_word"] f__law_sort :=
  cal_D F sc__law_sort g (fun _ _ _ _ _ _ us hl => match us, hl with | [_], _ => rfl) (w__law_sort)
/-! ### _law_others -/
noncomputable def m__law_others : MS := (mSeq (mAsg (mLstC mNil) (gN 1))
  (mSeq (mFor (mIter (mVar 0)) (gN 2) (mIfS (mTest (mBin opEq (mBin opIx (mVar 2) (mC (.int 0))) (mC (.str "circle")))) (mFor (mIter (mVar 0)) (gN 3) (mSeq (mAsg (mGet (mDisp false [((mC (.str "line")), (mSl (mVar 3) (mPart (mC (.int 2))) mNoPart)), ((mC (.str "along")), (mSl (mVar 3) (mPart (mC (.int 2))) (mPart (mC (.int 3))))), ((mC (.str "upright")), (mSl (mVar 3) (mPart (mC (.int 2))) (mPart (mC (.int 3)))))]) (mBin opIx (mVar 3) (mC (.int 0))) (mTup mNil)) (gN 4))
  (mIfS (mTest (mBin opIn (mBin opIx (mVar 2) (mC (.int 3))) (mVar 4))) (mDrop (mMeth isLst fAppend (mVar 1) (mCons (mTup (mCons (mBin opIx (mVar 3) (mC (.int 1))) (mCons (mBin opIx (mVar 2) (mC (.int 1))) (mCons (mBin opIx (mVar 2) (mC (.int 3))) mNil)))) mNil))) mNext))) mNext))
  (mRet (mVar 1))))
noncomputable def f__law_others : MF := callD 5 m__law_others
theorem sc__law_others : FnScope ["_law_steps", "_law_found", "_law_circle", "_law_line", "_law_through"] ["_law_steps"] (defScope (top 11)) := ⟨rfl, rfl, rfl, by decide +kernel, rfl, by decide +kernel, by decide +kernel⟩
theorem w__law_others {G : Gd} (X : Cx) (E : XK) (c : Cq G 0 E ["_law_steps", "_law_found", "_law_circle", "_law_line", "_law_through"] (defScope (top 11)) X) (hf : X.fn = fun _ => true) : PSs X (defBody (top 11)) (sD G.K E m__law_others) := by
  exact (css_cons (cs_set (i := 1) c rfl (loc_by rfl) (fnT hf) (ce_lstC ca_nil))
  (css_cons (cs_for c (ci_any c (ce_var (i := 0) c rfl (vis_by rfl))) (cg_name (i := 2) c rfl (loc_by rfl) (fnT hf)) (css_one (cs_if (ct_eq c (ce_ix c (ce_var (i := 2) c rfl (vis_by rfl)) ce_int) ce_str) (css_one (cs_for c (ci_any c (ce_var (i := 0) c rfl (vis_by rfl))) (cg_name (i := 3) c rfl (loc_by rfl) (fnT hf)) (css_cons (cs_set (i := 4) c rfl (loc_by rfl) (fnT hf) (ce_get c (ce_disp (cps_cons ce_str (ce_sl c (ce_var (i := 3) c rfl (vis_by rfl)) (co_some ce_int) co_none) (cps_cons ce_str (ce_sl c (ce_var (i := 3) c rfl (vis_by rfl)) (co_some ce_int) (co_some ce_int)) (cps_cons ce_str (ce_sl c (ce_var (i := 3) c rfl (vis_by rfl)) (co_some ce_int) (co_some ce_int)) cps_nil)))) (ce_ix c (ce_var (i := 3) c rfl (vis_by rfl)) ce_int) (ce_tup ca_nil) ⟨rfl, rfl, rfl, rfl⟩))
  (css_one (cs_if (ct_in c (ce_ix c (ce_var (i := 2) c rfl (vis_by rfl)) ce_int) (ce_var (i := 4) c rfl (vis_by rfl))) (css_one (cs_expr (ce_append c (ce_var (i := 1) c rfl (vis_by rfl)) (ca_cons (ce_tup (ca_cons (ce_ix c (ce_var (i := 3) c rfl (vis_by rfl)) ce_int) (ca_cons (ce_ix c (ce_var (i := 2) c rfl (vis_by rfl)) ce_int) (ca_cons (ce_ix c (ce_var (i := 2) c rfl (vis_by rfl)) ce_int) ca_nil)))) ca_nil)))) css_nil))))) css_nil)))
  (css_one (cs_ret (ce_var (i := 1) c rfl (vis_by rfl))))))
theorem C__law_others {G : Gd} {fd : FuncData} (F : FunD G.K "_law_others" "_law_others" (defArgs (top 11)) (defBody (top 11)) (defScope (top 11)) [] [] (He.ga G.K "_law_others") fd) (g : G.mg "_law_others" = some (.ref (He.ga G.K "_law_others"))) : Cal G 1 "_law_others" ["_law_steps"] f__law_others :=
  cal_D F sc__law_others g (fun _ _ _ _ _ _ us hl => match us, hl with | [_], _ => rfl) (w__law_others)
/-! ### _law_next -/
noncomputable def m__law_next : MS := (mSeq (mAsg (mCall 2 f__law_pick (mCons (mVar 0) (mCons (mVar 3) mNil))) (gN 4))
  (mSeq (mAsg (mCall 2 f__law_draw (mCons (mVar 0) (mCons (mC (.int 6)) mNil))) (gN 5))
  (mSeq (mAsg (mDisp false [((mC (.str "P")), (mLstC mNil)), ((mC (.str "L")), (mLstC mNil)), ((mC (.str "C")), (mLstC mNil))]) (gN 6))
  (mSeq (mFor (mIter (mVar 1)) (gN 7) (mDrop (mMeth isLst fAppend (mBin opIx (mVar 6) (mCall 1 f__law_sort (mCons (mBin opIx (mVar 7) (mC (.int 0))) mNil))) (mCons (mBin opIx (mVar 7) (mC (.int 1))) mNil))))
  (mSeq (mIfS (mTest (mBin opEq (mVar 4) (mC (.str "other")))) (mSeq (mAsg (mCall 1 f__law_others (mCons (mVar 1) mNil)) (gN 10))
  (mRet (mIf (mTest (mBin opNe (mVar 10) (mLst mNil))) (mBin opAdd (mTup (mCons (mC (.str "other")) (mCons (mVar 2) mNil))) (mBin opIx (mVar 10) (mBin opMod (mVar 5) (mCB fLen (mCons (mVar 10) mNil))))) (mTup (mCons (mC (.str "free")) (mCons (mVar 2) mNil)))))) mNext)
  (mSeq (mAsg (mTup (mCons (mVar 4) (mCons (mVar 2) mNil))) (gN 8))
  (mSeq (mFor (mIter (mBin opIx (mCall 0 f__law_forms mNil) (mVar 4))) (gN 9) (mIfS (mTest (mBin opEq (mVar 9) (mC (.str "n")))) (mAsg (mBin opAdd (mVar 8) (mTup (mCons (mBin opAdd (mC (.int 1)) (mBin opMod (mVar 5) (mC (.int 3)))) mNil))) (gN 8)) (mIfS (mTest (mBin opEq (mVar 9) (mC (.str "k")))) (mAsg (mBin opAdd (mVar 8) (mTup (mCons (mBin opMod (mVar 5) (mC (.int 2))) mNil))) (gN 8)) (mIfS (mTest (mBin opEq (mBin opIx (mVar 6) (mVar 9)) (mLst mNil))) (mRet (mTup (mCons (mC (.str "free")) (mCons (mVar 2) mNil)))) (mAsg (mBin opAdd (mVar 8) (mTup (mCons (mMeth isLst fPopAt (mBin opIx (mVar 6) (mVar 9)) (mCons (mCall 2 f__law_draw (mCons (mVar 0) (mCons (mCB fLen (mCons (mBin opIx (mVar 6) (mVar 9)) mNil)) mNil))) mNil)) mNil))) (gN 8))))))
  (mRet (mVar 8)))))))))
noncomputable def f__law_next : MF := callD 11 m__law_next
theorem sc__law_next : FnScope ["_law_deck_here", "_law_steps", "_law_name", "_law_words_here", "_law_word", "_law_spare", "_law_left", "_law_step", "_law_found", "_law_sign", "_law_some"] ["_law_deck_here", "_law_steps", "_law_name", "_law_words_here"] (defScope (top 12)) := ⟨rfl, rfl, rfl, by decide +kernel, rfl, by decide +kernel, by decide +kernel⟩
theorem w__law_next {G : Gd} (b_len : G.mg "len" = none) (C__law_pick : Cal G 2 "_law_pick" ["_law_deck_here", "_law_some"] f__law_pick) (C__law_draw : Cal G 1 "_law_draw" ["_law_deck_here", "_law_most"] f__law_draw) (C__law_sort : Cal G 1 "_law_sort" ["_law_word"] f__law_sort) (C__law_others : Cal G 1 "_law_others" ["_law_steps"] f__law_others) (C__law_forms : Cal G 1 "_law_forms" [] f__law_forms) (X : Cx) (E : XK) (c : Cq G 2 E ["_law_deck_here", "_law_steps", "_law_name", "_law_words_here", "_law_word", "_law_spare", "_law_left", "_law_step", "_law_found", "_law_sign", "_law_some"] (defScope (top 12)) X) (hf : X.fn = fun _ => true) : PSs X (defBody (top 12)) (sD G.K E m__law_next) := by
  have hj__law_pick : 2 ≤ 2 := by decide
  have hj__law_draw : 1 ≤ 2 := by decide
  have hj__law_sort : 1 ≤ 2 := by decide
  have hj__law_others : 1 ≤ 2 := by decide
  have hj__law_forms : 1 ≤ 2 := by decide
  exact (css_cons (cs_set (i := 4) c rfl (loc_by rfl) (fnT hf) (ce_call C__law_pick hj__law_pick c rfl (ca_cons (ce_var (i := 0) c rfl (vis_by rfl)) (ca_cons (ce_var (i := 3) c rfl (vis_by rfl)) ca_nil))))
  (css_cons (cs_set (i := 5) c rfl (loc_by rfl) (fnT hf) (ce_call C__law_draw hj__law_draw c rfl (ca_cons (ce_var (i := 0) c rfl (vis_by rfl)) (ca_cons ce_int ca_nil))))
  (css_cons (cs_set (i := 6) c rfl (loc_by rfl) (fnT hf) (ce_disp (cps_cons ce_str (ce_lstC ca_nil) (cps_cons ce_str (ce_lstC ca_nil) (cps_cons ce_str (ce_lstC ca_nil) cps_nil)))))
  (css_cons (cs_for c (ci_any c (ce_var (i := 1) c rfl (vis_by rfl))) (cg_name (i := 7) c rfl (loc_by rfl) (fnT hf)) (css_one (cs_expr (ce_append c (ce_ix c (ce_var (i := 6) c rfl (vis_by rfl)) (ce_call C__law_sort hj__law_sort c rfl (ca_cons (ce_ix c (ce_var (i := 7) c rfl (vis_by rfl)) ce_int) ca_nil))) (ca_cons (ce_ix c (ce_var (i := 7) c rfl (vis_by rfl)) ce_int) ca_nil)))))
  (css_cons (cs_if (ct_eq c (ce_var (i := 4) c rfl (vis_by rfl)) ce_str) (css_cons (cs_set (i := 10) c rfl (loc_by rfl) (fnT hf) (ce_call C__law_others hj__law_others c rfl (ca_cons (ce_var (i := 1) c rfl (vis_by rfl)) ca_nil)))
  (css_one (cs_ret (ce_if (ct_ne c (ce_var (i := 10) c rfl (vis_by rfl)) (ce_lst ca_nil)) (ce_add c (ce_tup (ca_cons ce_str (ca_cons (ce_var (i := 2) c rfl (vis_by rfl)) ca_nil))) (ce_ix c (ce_var (i := 10) c rfl (vis_by rfl)) (ce_mod c (ce_var (i := 5) c rfl (vis_by rfl)) (ce_len c b_len (ca_cons (ce_var (i := 10) c rfl (vis_by rfl)) ca_nil))))) (ce_tup (ca_cons ce_str (ca_cons (ce_var (i := 2) c rfl (vis_by rfl)) ca_nil))))))) css_nil)
  (css_cons (cs_set (i := 8) c rfl (loc_by rfl) (fnT hf) (ce_tup (ca_cons (ce_var (i := 4) c rfl (vis_by rfl)) (ca_cons (ce_var (i := 2) c rfl (vis_by rfl)) ca_nil))))
  (css_cons (cs_for c (ci_any c (ce_ix c (ce_call0 C__law_forms hj__law_forms c rfl) (ce_var (i := 4) c rfl (vis_by rfl)))) (cg_name (i := 9) c rfl (loc_by rfl) (fnT hf)) (css_one (cs_if (ct_eq c (ce_var (i := 9) c rfl (vis_by rfl)) ce_str) (css_one (cs_set (i := 8) c rfl (loc_by rfl) (fnT hf) (ce_add c (ce_var (i := 8) c rfl (vis_by rfl)) (ce_tup (ca_cons (ce_add c ce_int (ce_mod c (ce_var (i := 5) c rfl (vis_by rfl)) ce_int)) ca_nil))))) (css_one (cs_if (ct_eq c (ce_var (i := 9) c rfl (vis_by rfl)) ce_str) (css_one (cs_set (i := 8) c rfl (loc_by rfl) (fnT hf) (ce_add c (ce_var (i := 8) c rfl (vis_by rfl)) (ce_tup (ca_cons (ce_mod c (ce_var (i := 5) c rfl (vis_by rfl)) ce_int) ca_nil))))) (css_one (cs_if (ct_eq c (ce_ix c (ce_var (i := 6) c rfl (vis_by rfl)) (ce_var (i := 9) c rfl (vis_by rfl))) (ce_lst ca_nil)) (css_one (cs_ret (ce_tup (ca_cons ce_str (ca_cons (ce_var (i := 2) c rfl (vis_by rfl)) ca_nil))))) (css_one (cs_set (i := 8) c rfl (loc_by rfl) (fnT hf) (ce_add c (ce_var (i := 8) c rfl (vis_by rfl)) (ce_tup (ca_cons (ce_popAt c (ce_ix c (ce_var (i := 6) c rfl (vis_by rfl)) (ce_var (i := 9) c rfl (vis_by rfl))) (ca_cons (ce_call C__law_draw hj__law_draw c rfl (ca_cons (ce_var (i := 0) c rfl (vis_by rfl)) (ca_cons (ce_len c b_len (ca_cons (ce_ix c (ce_var (i := 6) c rfl (vis_by rfl)) (ce_var (i := 9) c rfl (vis_by rfl))) ca_nil)) ca_nil))) ca_nil)) ca_nil))))))))))))
  (css_one (cs_ret (ce_var (i := 8) c rfl (vis_by rfl)))))))))))
theorem C__law_next {G : Gd} {fd : FuncData} (b_len : G.mg "len" = none) (C__law_pick : Cal G 2 "_law_pick" ["_law_deck_here", "_law_some"] f__law_pick) (C__law_draw : Cal G 1 "_law_draw" ["_law_deck_here", "_law_most"] f__law_draw) (C__law_sort : Cal G 1 "_law_sort" ["_law_word"] f__law_sort) (C__law_others : Cal G 1 "_law_others" ["_law_steps"] f__law_others) (C__law_forms : Cal G 1 "_law_forms" [] f__law_forms) (F : FunD G.K "_law_next" "_law_next" (defArgs (top 12)) (defBody (top 12)) (defScope (top 12)) [] [] (He.ga G.K "_law_next") fd) (g : G.mg "_law_next" = some (.ref (He.ga G.K "_law_next"))) : Cal G 3 "_law_next" ["_law_deck_here", "_law_steps", "_law_name", "_law_words_here"] f__law_next :=
  cal_D F sc__law_next g (fun _ _ _ _ _ _ us hl => match us, hl with | [_, _, _, _], _ => rfl) (w__law_next b_len C__law_pick C__law_draw C__law_sort C__law_others C__law_forms)
/-! ### _law_words -/
noncomputable def m__law_words : MS := (mSeq (mAsg (mLst (mCons (mC (.str "free")) (mCons (mC (.str "on")) (mCons (mC (.str "round")) (mCons (mC (.str "meet")) (mCons (mC (.str "middle")) (mCons (mC (.str "foot")) (mCons (mC (.str "mirror")) (mCons (mC (.str "turn")) (mCons (mC (.str "other")) (mCons (mC (.str "line")) (mCons (mC (.str "line")) (mCons (mC (.str "along")) mNil))))))))))))) (gN 1))
  (mRet (mBin opAdd (mBin opAdd (mVar 1) (mLst (mCons (mC (.str "upright")) (mCons (mC (.str "circle")) (mCons (mC (.str "circle")) (mCons (mC (.str "meet")) mNil)))))) (mBin opMul (mLst (mCons (mC (.str "cross")) mNil)) (mCB fInt1 (mCons (mVar 0) mNil))))))
noncomputable def f__law_words : MF := callD 2 m__law_words
theorem sc__law_words : FnScope ["_law_with_cross", "_law_found"] ["_law_with_cross"] (defScope (top 13)) := ⟨rfl, rfl, rfl, by decide +kernel, rfl, by decide +kernel, by decide +kernel⟩
theorem w__law_words {G : Gd} (b_int : G.mg "int" = none) (X : Cx) (E : XK) (c : Cq G 0 E ["_law_with_cross", "_law_found"] (defScope (top 13)) X) (hf : X.fn = fun _ => true) : PSs X (defBody (top 13)) (sD G.K E m__law_words) := by
  exact (css_cons (cs_set (i := 1) c rfl (loc_by rfl) (fnT hf) (ce_lst (ca_cons ce_str (ca_cons ce_str (ca_cons ce_str (ca_cons ce_str (ca_cons ce_str (ca_cons ce_str (ca_cons ce_str (ca_cons ce_str (ca_cons ce_str (ca_cons ce_str (ca_cons ce_str (ca_cons ce_str ca_nil))))))))))))))
  (css_one (cs_ret (ce_add c (ce_add c (ce_var (i := 1) c rfl (vis_by rfl)) (ce_lst (ca_cons ce_str (ca_cons ce_str (ca_cons ce_str (ca_cons ce_str ca_nil)))))) (ce_mul c (ce_lst (ca_cons ce_str ca_nil)) (ce_int1 c b_int (ca_cons (ce_var (i := 0) c rfl (vis_by rfl)) ca_nil)))))))
theorem C__law_words {G : Gd} {fd : FuncData} (b_int : G.mg "int" = none) (F : FunD G.K "_law_words" "_law_words" (defArgs (top 13)) (defBody (top 13)) (defScope (top 13)) [] [] (He.ga G.K "_law_words") fd) (g : G.mg "_law_words" = some (.ref (He.ga G.K "_law_words"))) : Cal G 1 "_law_words" ["_law_with_cross"] f__law_words :=
  cal_D F sc__law_words g (fun _ _ _ _ _ _ us hl => match us, hl with | [_], _ => rfl) (w__law_words b_int)
/-! ### _law_sketch -/
noncomputable def m__law_sketch : MS := (mSeq (mAsg (mLstC (mCons (mTup (mCons (mC (.str "free")) (mCons (mBin opIx (mVar 1) (mC (.int 0))) mNil))) (mCons (mTup (mCons (mC (.str "free")) (mCons (mBin opIx (mVar 1) (mC (.int 1))) mNil))) (mCons (mTup (mCons (mC (.str "line")) (mCons (mBin opIx (mVar 1) (mC (.int 2))) (mCons (mBin opIx (mVar 1) (mC (.int 0))) (mCons (mBin opIx (mVar 1) (mC (.int 1))) mNil))))) mNil)))) (gN 4))
  (mSeq (mIfS (mTest (mBin opEq (mCall 2 f__law_draw (mCons (mVar 0) (mCons (mC (.int 2)) mNil))) (mC (.int 1)))) (mSetItem (mTup (mCons (mC (.str "circle")) (mCons (mBin opIx (mVar 1) (mC (.int 2))) (mCons (mBin opIx (mVar 1) (mC (.int 1))) (mCons (mBin opIx (mVar 1) (mC (.int 0))) mNil))))) (mVar 4) (mC (.int 2))) mNext)
  (mSeq (mFor (mRng rng2 (mCons (mC (.int 3)) (mCons (mCB fMax2 (mCons (mC (.int 3)) (mCons (mVar 2) mNil))) mNil))) (gN 5) (mDrop (mMeth isLst fAppend (mVar 4) (mCons (mCall 4 f__law_next (mCons (mVar 0) (mCons (mVar 4) (mCons (mBin opIx (mVar 1) (mVar 5)) (mCons (mVar 3) mNil))))) mNil))))
  (mRet (mCB fTuple (mCons (mSl (mVar 4) mNoPart (mPart (mVar 2))) mNil))))))
noncomputable def f__law_sketch : MF := callD 6 m__law_sketch
theorem sc__law_sketch : FnScope ["_law_deck_here", "_law_names_here", "_law_many", "_law_words_here", "_law_steps", "_law_k"] ["_law_deck_here", "_law_names_here", "_law_many", "_law_words_here"] (defScope (top 14)) := ⟨rfl, rfl, rfl, by decide +kernel, rfl, by decide +kernel, by decide +kernel⟩
theorem w__law_sketch {G : Gd} (b_max : G.mg "max" = none) (b_range : G.mg "range" = none) (b_tuple : G.mg "tuple" = none) (C__law_draw : Cal G 1 "_law_draw" ["_law_deck_here", "_law_most"] f__law_draw) (C__law_next : Cal G 3 "_law_next" ["_law_deck_here", "_law_steps", "_law_name", "_law_words_here"] f__law_next) (X : Cx) (E : XK) (c : Cq G 3 E ["_law_deck_here", "_law_names_here", "_law_many", "_law_words_here", "_law_steps", "_law_k"] (defScope (top 14)) X) (hf : X.fn = fun _ => true) : PSs X (defBody (top 14)) (sD G.K E m__law_sketch) := by
  have hj__law_draw : 1 ≤ 3 := by decide
  have hj__law_next : 3 ≤ 3 := by decide
  exact (css_cons (cs_set (i := 4) c rfl (loc_by rfl) (fnT hf) (ce_lstC (ca_cons (ce_tup (ca_cons ce_str (ca_cons (ce_ix c (ce_var (i := 1) c rfl (vis_by rfl)) ce_int) ca_nil))) (ca_cons (ce_tup (ca_cons ce_str (ca_cons (ce_ix c (ce_var (i := 1) c rfl (vis_by rfl)) ce_int) ca_nil))) (ca_cons (ce_tup (ca_cons ce_str (ca_cons (ce_ix c (ce_var (i := 1) c rfl (vis_by rfl)) ce_int) (ca_cons (ce_ix c (ce_var (i := 1) c rfl (vis_by rfl)) ce_int) (ca_cons (ce_ix c (ce_var (i := 1) c rfl (vis_by rfl)) ce_int) ca_nil))))) ca_nil)))))
  (css_cons (cs_if (ct_eq c (ce_call C__law_draw hj__law_draw c rfl (ca_cons (ce_var (i := 0) c rfl (vis_by rfl)) (ca_cons ce_int ca_nil))) ce_int) (css_one (cs_setItem c (ce_tup (ca_cons ce_str (ca_cons (ce_ix c (ce_var (i := 1) c rfl (vis_by rfl)) ce_int) (ca_cons (ce_ix c (ce_var (i := 1) c rfl (vis_by rfl)) ce_int) (ca_cons (ce_ix c (ce_var (i := 1) c rfl (vis_by rfl)) ce_int) ca_nil))))) (ce_var (i := 4) c rfl (vis_by rfl)) ce_int)) css_nil)
  (css_cons (cs_for c (ci_range2 c rfl b_range (ca_cons ce_int (ca_cons (ce_max2 c b_max (ca_cons ce_int (ca_cons (ce_var (i := 2) c rfl (vis_by rfl)) ca_nil))) ca_nil))) (cg_name (i := 5) c rfl (loc_by rfl) (fnT hf)) (css_one (cs_expr (ce_append c (ce_var (i := 4) c rfl (vis_by rfl)) (ca_cons (ce_call C__law_next hj__law_next c rfl (ca_cons (ce_var (i := 0) c rfl (vis_by rfl)) (ca_cons (ce_var (i := 4) c rfl (vis_by rfl)) (ca_cons (ce_ix c (ce_var (i := 1) c rfl (vis_by rfl)) (ce_var (i := 5) c rfl (vis_by rfl))) (ca_cons (ce_var (i := 3) c rfl (vis_by rfl)) ca_nil))))) ca_nil)))))
  (css_one (cs_ret (ce_tuple c b_tuple (ca_cons (ce_sl c (ce_var (i := 4) c rfl (vis_by rfl)) co_none (co_some (ce_var (i := 2) c rfl (vis_by rfl)))) ca_nil)))))))
theorem C__law_sketch {G : Gd} {fd : FuncData} (b_max : G.mg "max" = none) (b_range : G.mg "range" = none) (b_tuple : G.mg "tuple" = none) (C__law_draw : Cal G 1 "_law_draw" ["_law_deck_here", "_law_most"] f__law_draw) (C__law_next : Cal G 3 "_law_next" ["_law_deck_here", "_law_steps", "_law_name", "_law_words_here"] f__law_next) (F : FunD G.K "_law_sketch" "_law_sketch" (defArgs (top 14)) (defBody (top 14)) (defScope (top 14)) [] [] (He.ga G.K "_law_sketch") fd) (g : G.mg "_law_sketch" = some (.ref (He.ga G.K "_law_sketch"))) : Cal G 4 "_law_sketch" ["_law_deck_here", "_law_names_here", "_law_many", "_law_words_here"] f__law_sketch :=
  cal_D F sc__law_sketch g (fun _ _ _ _ _ _ us hl => match us, hl with | [_, _, _, _], _ => rfl) (w__law_sketch b_max b_range b_tuple C__law_draw C__law_next)
/-! ### _law_hanging -/
noncomputable def m__law_hanging : MS := (mSeq (mAsg (mLstC (mCons (mVar 1) mNil)) (gN 2))
  (mSeq (mAsg (mLstC mNil) (gN 3))
  (mSeq (mFor (mEnum (mVar 0)) (gT [(gN 4), (gN 5)]) (mIfS (mTest (mBin opNe (mLc (mIter (mSl (mVar 5) (mPart (mC (.int 2))) mNoPart)) (gN 6) (mAndT (mTest (mCB fIsi (mCons (mVar 6) (mCons (mC (.ty "str")) mNil)))) (mTest (mBin opIn (mVar 6) (mVar 2)))) (mVar 6) [6]) (mLst mNil))) (mSeq (mDrop (mMeth isLst fAppend (mVar 2) (mCons (mBin opIx (mVar 5) (mC (.int 1))) mNil)))
  (mDrop (mMeth isLst fAppend (mVar 3) (mCons (mVar 4) mNil)))) mNext))
  (mRet (mVar 3)))))
noncomputable def f__law_hanging : MF := callD 7 m__law_hanging
theorem sc__law_hanging : FnScope ["_law_steps", "_law_name", "_law_names_here", "_law_found", "_law_k", "_law_step", "_law_thing"] ["_law_steps", "_law_name"] (defScope (top 15)) := ⟨rfl, rfl, rfl, by decide +kernel, rfl, by decide +kernel, by decide +kernel⟩
theorem w__law_hanging {G : Gd} (b_enumerate : G.mg "enumerate" = none) (b_str : G.mg "str" = none) (b_isinstance : G.mg "isinstance" = none) (X : Cx) (E : XK) (c : Cq G 0 E ["_law_steps", "_law_name", "_law_names_here", "_law_found", "_law_k", "_law_step", "_law_thing"] (defScope (top 15)) X) (hf : X.fn = fun _ => true) : PSs X (defBody (top 15)) (sD G.K E m__law_hanging) := by
  exact (css_cons (cs_set (i := 2) c rfl (loc_by rfl) (fnT hf) (ce_lstC (ca_cons (ce_var (i := 1) c rfl (vis_by rfl)) ca_nil)))
  (css_cons (cs_set (i := 3) c rfl (loc_by rfl) (fnT hf) (ce_lstC ca_nil))
  (css_cons (cs_for c (ci_enum c rfl b_enumerate (ce_var (i := 0) c rfl (vis_by rfl))) (cg_tup c (cgs_cons (cg_name (i := 4) c rfl (loc_by rfl) (fnT hf)) (cgs_cons (cg_name (i := 5) c rfl (loc_by rfl) (fnT hf)) cgs_nil))) (css_one (cs_if (ct_ne c (ce_lc (own := [("_law_thing", 6)]) c (ci_any c (ce_sl c (ce_var (i := 5) c rfl (vis_by rfl)) (co_some ce_int) co_none)) rfl rfl (fun _ cx hfcx => (cg_name (i := 6) cx rfl (loc_by rfl) (fnC hfcx (by first | exact .inr rfl | exact .inl rfl)))) (fun _ cx => (cts_one (cw_and (ct_val (ce_isi cx b_isinstance (ca_cons (ce_var (i := 6) cx rfl (vis_by rfl)) (ca_cons (ce_ty cx b_str rfl (by decide +kernel)) ca_nil)))) (cw_one_and (ct_in cx (ce_var (i := 6) cx rfl (vis_by rfl)) (ce_var (i := 2) cx rfl (vis_by rfl))))).pt)) (fun _ cx => (ce_var (i := 6) cx rfl (vis_by rfl))) (by decide)) (ce_lst ca_nil)) (css_cons (cs_expr (ce_append c (ce_var (i := 2) c rfl (vis_by rfl)) (ca_cons (ce_ix c (ce_var (i := 5) c rfl (vis_by rfl)) ce_int) ca_nil)))
  (css_one (cs_expr (ce_append c (ce_var (i := 3) c rfl (vis_by rfl)) (ca_cons (ce_var (i := 4) c rfl (vis_by rfl)) ca_nil))))) css_nil)))
  (css_one (cs_ret (ce_var (i := 3) c rfl (vis_by rfl)))))))
theorem C__law_hanging {G : Gd} {fd : FuncData} (b_enumerate : G.mg "enumerate" = none) (b_str : G.mg "str" = none) (b_isinstance : G.mg "isinstance" = none) (F : FunD G.K "_law_hanging" "_law_hanging" (defArgs (top 15)) (defBody (top 15)) (defScope (top 15)) [] [] (He.ga G.K "_law_hanging") fd) (g : G.mg "_law_hanging" = some (.ref (He.ga G.K "_law_hanging"))) : Cal G 1 "_law_hanging" ["_law_steps", "_law_name"] f__law_hanging :=
  cal_D F sc__law_hanging g (fun _ _ _ _ _ _ us hl => match us, hl with | [_, _], _ => rfl) (w__law_hanging b_enumerate b_str b_isinstance)
/-! ### _law_needed -/
noncomputable def m__law_needed : MS := (mSeq (mAsg (mCB fList (mCons (mVar 1) mNil)) (gN 2))
  (mSeq (mFor (mIter (mUn opRevA (mVar 0))) (gN 3) (mIfS (mTest (mBin opIn (mBin opIx (mVar 3) (mC (.int 1))) (mVar 2))) (mAsg (mBin opAdd (mVar 2) (mLc (mIter (mSl (mVar 3) (mPart (mC (.int 2))) mNoPart)) (gN 5) (mTest (mCB fIsi (mCons (mVar 5) (mCons (mC (.ty "str")) mNil)))) (mVar 5) [5])) (gN 2)) mNext))
  (mRet (mLc (mEnum (mVar 0)) (gT [(gN 4), (gN 3)]) (mTest (mBin opIn (mBin opIx (mVar 3) (mC (.int 1))) (mVar 2))) (mVar 4) [4, 3]))))
noncomputable def f__law_needed : MF := callD 6 m__law_needed
theorem sc__law_needed : FnScope ["_law_steps", "_law_names_here", "_law_wanted", "_law_step", "_law_k", "_law_thing"] ["_law_steps", "_law_names_here"] (defScope (top 16)) := ⟨rfl, rfl, rfl, by decide +kernel, rfl, by decide +kernel, by decide +kernel⟩
theorem w__law_needed {G : Gd} (b_list : G.mg "list" = none) (b_str : G.mg "str" = none) (b_isinstance : G.mg "isinstance" = none) (b_enumerate : G.mg "enumerate" = none) (X : Cx) (E : XK) (c : Cq G 0 E ["_law_steps", "_law_names_here", "_law_wanted", "_law_step", "_law_k", "_law_thing"] (defScope (top 16)) X) (hf : X.fn = fun _ => true) : PSs X (defBody (top 16)) (sD G.K E m__law_needed) := by
  exact (css_cons (cs_set (i := 2) c rfl (loc_by rfl) (fnT hf) (ce_list c b_list (ca_cons (ce_var (i := 1) c rfl (vis_by rfl)) ca_nil)))
  (css_cons (cs_for c (ci_any c (ce_revA c (ce_var (i := 0) c rfl (vis_by rfl)))) (cg_name (i := 3) c rfl (loc_by rfl) (fnT hf)) (css_one (cs_if (ct_in c (ce_ix c (ce_var (i := 3) c rfl (vis_by rfl)) ce_int) (ce_var (i := 2) c rfl (vis_by rfl))) (css_one (cs_set (i := 2) c rfl (loc_by rfl) (fnT hf) (ce_add c (ce_var (i := 2) c rfl (vis_by rfl)) (ce_lc (own := [("_law_thing", 5)]) c (ci_any c (ce_sl c (ce_var (i := 3) c rfl (vis_by rfl)) (co_some ce_int) co_none)) rfl rfl (fun _ cx hfcx => (cg_name (i := 5) cx rfl (loc_by rfl) (fnC hfcx (by first | exact .inr rfl | exact .inl rfl)))) (fun _ cx => (cts_one (ct_val (ce_isi cx b_isinstance (ca_cons (ce_var (i := 5) cx rfl (vis_by rfl)) (ca_cons (ce_ty cx b_str rfl (by decide +kernel)) ca_nil)))))) (fun _ cx => (ce_var (i := 5) cx rfl (vis_by rfl))) (by decide))))) css_nil)))
  (css_one (cs_ret (ce_lc (own := [("_law_k", 4), ("_law_step", 3)]) c (ci_enum c rfl b_enumerate (ce_var (i := 0) c rfl (vis_by rfl))) rfl rfl (fun _ cx hfcx => (cg_tup cx (cgs_cons (cg_name (i := 4) cx rfl (loc_by rfl) (fnC hfcx (by first | exact .inr rfl | exact .inl rfl))) (cgs_cons (cg_name (i := 3) cx rfl (loc_by rfl) (fnC hfcx (by first | exact .inr rfl | exact .inl rfl))) cgs_nil)))) (fun _ cx => (cts_one (ct_in cx (ce_ix cx (ce_var (i := 3) cx rfl (vis_by rfl)) ce_int) (ce_var (i := 2) cx rfl (vis_by rfl))))) (fun _ cx => (ce_var (i := 4) cx rfl (vis_by rfl))) (by decide))))))
theorem C__law_needed {G : Gd} {fd : FuncData} (b_list : G.mg "list" = none) (b_str : G.mg "str" = none) (b_isinstance : G.mg "isinstance" = none) (b_enumerate : G.mg "enumerate" = none) (F : FunD G.K "_law_needed" "_law_needed" (defArgs (top 16)) (defBody (top 16)) (defScope (top 16)) [] [] (He.ga G.K "_law_needed") fd) (g : G.mg "_law_needed" = some (.ref (He.ga G.K "_law_needed"))) : Cal G 1 "_law_needed" ["_law_steps", "_law_names_here"] f__law_needed :=
  cal_D F sc__law_needed g (fun _ _ _ _ _ _ us hl => match us, hl with | [_, _], _ => rfl) (w__law_needed b_list b_str b_isinstance b_enumerate)
/-! ### _law_right -/
noncomputable def m__law_right : MS := (mSeq (mAsg (mCB fRepr (mCons (mVar 1) mNil)) (gN 2))
  (mSeq (mAsg (mLc (mIter (mVar 1)) (gN 8) mYes (mBin opIx (mVar 8) (mC (.int 1))) [8]) (gN 3))
  (mSeq (mFor (mIter (mVar 3)) (gN 4) (mSeq (mAsg (mCB fRepr (mCons (mCB fTuple (mCons (mCall 2 f__law_hanging (mCons (mVar 1) (mCons (mVar 4) mNil))) mNil)) mNil)) (gN 6))
  (mSeq (mIfS (mOrT (mTest (mBin opNe (mCB fRepr (mCons (mCall 2 f_hanging (mCons (mVar 1) (mCons (mVar 4) mNil))) mNil)) (mVar 6))) (mTest (mBin opNe (mCB fRepr (mCons (mCall 2 f_hanging (mCons (mVar 1) (mCons (mVar 4) mNil))) mNil)) (mVar 6)))) (mRet (mC (.bl false))) mNext)
  (mSeq (mAsg (mCB fRepr (mCons (mCB fTuple (mCons (mCall 2 f__law_needed (mCons (mVar 1) (mCons (mLst (mCons (mVar 4) mNil)) mNil))) mNil)) mNil)) (gN 6))
  (mIfS (mTest (mBin opNe (mCB fRepr (mCons (mCall 2 f_needed (mCons (mVar 1) (mCons (mTup (mCons (mVar 4) mNil)) mNil))) mNil)) (mVar 6))) (mRet (mC (.bl false))) mNext)))))
  (mSeq (mFor (mRng rng1 (mCons (mC (.int 6)) mNil)) (gN 5) (mSeq (mAsg (mCB fTuple (mCons (mLc (mRng rng1 (mCons (mBin opAdd (mC (.int 1)) (mCall 2 f__law_draw (mCons (mVar 0) (mCons (mC (.int 3)) mNil)))) mNil)) (gN 9) mYes (mCall 2 f__law_pick (mCons (mVar 0) (mCons (mVar 3) mNil))) [9]) mNil)) (gN 7))
  (mIfS (mTest (mBin opNe (mCB fRepr (mCons (mCall 2 f_needed (mCons (mVar 1) (mCons (mVar 7) mNil))) mNil)) (mCB fRepr (mCons (mCB fTuple (mCons (mCall 2 f__law_needed (mCons (mVar 1) (mCons (mVar 7) mNil))) mNil)) mNil)))) (mRet (mC (.bl false))) mNext)))
  (mRet (mAndV (mBin opEq (mCB fRepr (mCons (mVar 1) mNil)) (mVar 2)) (mBin opEq (mCall 2 f_needed (mCons (mVar 1) (mCons (mTup mNil) mNil))) (mTup mNil))))))))
noncomputable def f__law_right : MF := callD 10 m__law_right
theorem sc__law_right : FnScope ["_law_deck_here", "_law_steps", "_law_kept", "_law_names_here", "_law_name", "_law_lap", "_law_due", "_law_some", "_law_step", "_law_k"] ["_law_deck_here", "_law_steps"] (defScope (top 17)) := ⟨rfl, rfl, rfl, by decide +kernel, rfl, by decide +kernel, by decide +kernel⟩
theorem w__law_right {G : Gd} (b_repr : G.mg "repr" = none) (b_tuple : G.mg "tuple" = none) (b_range : G.mg "range" = none) (C__law_hanging : Cal G 1 "_law_hanging" ["_law_steps", "_law_name"] f__law_hanging) (C_hanging : Cal G 2 "hanging" ["sketch", "name"] f_hanging) (C__law_needed : Cal G 1 "_law_needed" ["_law_steps", "_law_names_here"] f__law_needed) (C_needed : Cal G 2 "needed" ["sketch", "names"] f_needed) (C__law_draw : Cal G 1 "_law_draw" ["_law_deck_here", "_law_most"] f__law_draw) (C__law_pick : Cal G 2 "_law_pick" ["_law_deck_here", "_law_some"] f__law_pick) (X : Cx) (E : XK) (c : Cq G 2 E ["_law_deck_here", "_law_steps", "_law_kept", "_law_names_here", "_law_name", "_law_lap", "_law_due", "_law_some", "_law_step", "_law_k"] (defScope (top 17)) X) (hf : X.fn = fun _ => true) : PSs X (defBody (top 17)) (sD G.K E m__law_right) := by
  have hj__law_hanging : 1 ≤ 2 := by decide
  have hj_hanging : 2 ≤ 2 := by decide
  have hj__law_needed : 1 ≤ 2 := by decide
  have hj_needed : 2 ≤ 2 := by decide
  have hj__law_draw : 1 ≤ 2 := by decide
  have hj__law_pick : 2 ≤ 2 := by decide
  exact (css_cons (cs_set (i := 2) c rfl (loc_by rfl) (fnT hf) (ce_repr c b_repr (ca_cons (ce_var (i := 1) c rfl (vis_by rfl)) ca_nil)))
  (css_cons (cs_cellL (i := 3) c hf rfl rfl (ce_lc (own := [("_law_step", 8)]) c (ci_any c (ce_var (i := 1) c rfl (vis_by rfl))) rfl rfl (fun _ cx hfcx => (cg_name (i := 8) cx rfl (loc_by rfl) (fnC hfcx (by first | exact .inr rfl | exact .inl rfl)))) (fun _ cx => cts_nil) (fun _ cx => (ce_ix cx (ce_var (i := 8) cx rfl (vis_by rfl)) ce_int)) (by decide)))
  (css_cons (cs_for c (ci_any c (ce_var (i := 3) c rfl (vis_by rfl))) (cg_name (i := 4) c rfl (loc_by rfl) (fnT hf)) (css_cons (cs_set (i := 6) c rfl (loc_by rfl) (fnT hf) (ce_repr c b_repr (ca_cons (ce_tuple c b_tuple (ca_cons (ce_call C__law_hanging hj__law_hanging c rfl (ca_cons (ce_var (i := 1) c rfl (vis_by rfl)) (ca_cons (ce_var (i := 4) c rfl (vis_by rfl)) ca_nil))) ca_nil)) ca_nil)))
  (css_cons (cs_if (cw_or (ct_ne c (ce_repr c b_repr (ca_cons (ce_call C_hanging hj_hanging c rfl (ca_cons (ce_var (i := 1) c rfl (vis_by rfl)) (ca_cons (ce_var (i := 4) c rfl (vis_by rfl)) ca_nil))) ca_nil)) (ce_var (i := 6) c rfl (vis_by rfl))) (cw_one_or (ct_ne c (ce_repr c b_repr (ca_cons (ce_call C_hanging hj_hanging c rfl (ca_cons (ce_var (i := 1) c rfl (vis_by rfl)) (ca_cons (ce_var (i := 4) c rfl (vis_by rfl)) ca_nil))) ca_nil)) (ce_var (i := 6) c rfl (vis_by rfl))))).pt (css_one (cs_ret ce_bl)) css_nil)
  (css_cons (cs_set (i := 6) c rfl (loc_by rfl) (fnT hf) (ce_repr c b_repr (ca_cons (ce_tuple c b_tuple (ca_cons (ce_call C__law_needed hj__law_needed c rfl (ca_cons (ce_var (i := 1) c rfl (vis_by rfl)) (ca_cons (ce_lst (ca_cons (ce_var (i := 4) c rfl (vis_by rfl)) ca_nil)) ca_nil))) ca_nil)) ca_nil)))
  (css_one (cs_if (ct_ne c (ce_repr c b_repr (ca_cons (ce_call C_needed hj_needed c rfl (ca_cons (ce_var (i := 1) c rfl (vis_by rfl)) (ca_cons (ce_tup (ca_cons (ce_var (i := 4) c rfl (vis_by rfl)) ca_nil)) ca_nil))) ca_nil)) (ce_var (i := 6) c rfl (vis_by rfl))) (css_one (cs_ret ce_bl)) css_nil))))))
  (css_cons (cs_for c (ci_range1 c rfl b_range (ca_cons ce_int ca_nil)) (cg_name (i := 5) c rfl (loc_by rfl) (fnT hf)) (css_cons (cs_set (i := 7) c rfl (loc_by rfl) (fnT hf) (ce_tuple c b_tuple (ca_cons (ce_lc (own := [("_law_k", 9)]) c (ci_range1 c rfl b_range (ca_cons (ce_add c ce_int (ce_call C__law_draw hj__law_draw c rfl (ca_cons (ce_var (i := 0) c rfl (vis_by rfl)) (ca_cons ce_int ca_nil)))) ca_nil)) rfl rfl (fun _ cx hfcx => (cg_name (i := 9) cx rfl (loc_by rfl) (fnC hfcx (by first | exact .inr rfl | exact .inl rfl)))) (fun _ cx => cts_nil) (fun _ cx => (ce_call C__law_pick hj__law_pick cx rfl (ca_cons (ce_var (i := 0) cx rfl (vis_by rfl)) (ca_cons (ce_var (i := 3) cx rfl (vis_by rfl)) ca_nil)))) (by decide)) ca_nil)))
  (css_one (cs_if (ct_ne c (ce_repr c b_repr (ca_cons (ce_call C_needed hj_needed c rfl (ca_cons (ce_var (i := 1) c rfl (vis_by rfl)) (ca_cons (ce_var (i := 7) c rfl (vis_by rfl)) ca_nil))) ca_nil)) (ce_repr c b_repr (ca_cons (ce_tuple c b_tuple (ca_cons (ce_call C__law_needed hj__law_needed c rfl (ca_cons (ce_var (i := 1) c rfl (vis_by rfl)) (ca_cons (ce_var (i := 7) c rfl (vis_by rfl)) ca_nil))) ca_nil)) ca_nil))) (css_one (cs_ret ce_bl)) css_nil))))
  (css_one (cs_ret (ce_and (ce_eq c (ce_repr c b_repr (ca_cons (ce_var (i := 1) c rfl (vis_by rfl)) ca_nil)) (ce_var (i := 2) c rfl (vis_by rfl))) (ce_one (ce_eq c (ce_call C_needed hj_needed c rfl (ca_cons (ce_var (i := 1) c rfl (vis_by rfl)) (ca_cons (ce_tup ca_nil) ca_nil))) (ce_tup ca_nil))))))))))
theorem C__law_right {G : Gd} {fd : FuncData} (b_repr : G.mg "repr" = none) (b_tuple : G.mg "tuple" = none) (b_range : G.mg "range" = none) (C__law_hanging : Cal G 1 "_law_hanging" ["_law_steps", "_law_name"] f__law_hanging) (C_hanging : Cal G 2 "hanging" ["sketch", "name"] f_hanging) (C__law_needed : Cal G 1 "_law_needed" ["_law_steps", "_law_names_here"] f__law_needed) (C_needed : Cal G 2 "needed" ["sketch", "names"] f_needed) (C__law_draw : Cal G 1 "_law_draw" ["_law_deck_here", "_law_most"] f__law_draw) (C__law_pick : Cal G 2 "_law_pick" ["_law_deck_here", "_law_some"] f__law_pick) (F : FunD G.K "_law_right" "_law_right" (defArgs (top 17)) (defBody (top 17)) (defScope (top 17)) [] [] (He.ga G.K "_law_right") fd) (g : G.mg "_law_right" = some (.ref (He.ga G.K "_law_right"))) : Cal G 3 "_law_right" ["_law_deck_here", "_law_steps"] f__law_right :=
  cal_D F sc__law_right g (fun _ _ _ _ _ _ us hl => match us, hl with | [_, _], _ => rfl) (w__law_right b_repr b_tuple b_range C__law_hanging C_hanging C__law_needed C_needed C__law_draw C__law_pick)
/-! ### _law_chain -/
noncomputable def m__law_chain : MS := (mSeq (mAsg (mLstC (mCons (mTup (mCons (mC (.str "free")) (mCons (mBin opIx (mVar 0) (mC (.int 0))) mNil))) (mCons (mTup (mCons (mC (.str "free")) (mCons (mBin opIx (mVar 0) (mC (.int 1))) mNil))) (mCons (mTup (mCons (mC (.str "middle")) (mCons (mBin opIx (mVar 0) (mC (.int 2))) (mCons (mBin opIx (mVar 0) (mC (.int 0))) (mCons (mBin opIx (mVar 0) (mC (.int 1))) mNil))))) mNil)))) (gN 1))
  (mSeq (mFor (mRng rng2 (mCons (mC (.int 3)) (mCons (mC (.int 14)) mNil))) (gN 2) (mDrop (mMeth isLst fAppend (mVar 1) (mCons (mTup (mCons (mC (.str "middle")) (mCons (mBin opIx (mVar 0) (mVar 2)) (mCons (mBin opIx (mVar 0) (mBin opSub (mVar 2) (mC (.int 1)))) (mCons (mBin opIx (mVar 0) (mBin opMod (mVar 2) (mC (.int 2)))) mNil))))) mNil))))
  (mRet (mCB fTuple (mCons (mVar 1) mNil)))))
noncomputable def f__law_chain : MF := callD 3 m__law_chain
theorem sc__law_chain : FnScope ["_law_names_here", "_law_steps", "_law_k"] ["_law_names_here"] (defScope (top 18)) := ⟨rfl, rfl, rfl, by decide +kernel, rfl, by decide +kernel, by decide +kernel⟩
theorem w__law_chain {G : Gd} (b_range : G.mg "range" = none) (b_tuple : G.mg "tuple" = none) (X : Cx) (E : XK) (c : Cq G 0 E ["_law_names_here", "_law_steps", "_law_k"] (defScope (top 18)) X) (hf : X.fn = fun _ => true) : PSs X (defBody (top 18)) (sD G.K E m__law_chain) := by
  exact (css_cons (cs_set (i := 1) c rfl (loc_by rfl) (fnT hf) (ce_lstC (ca_cons (ce_tup (ca_cons ce_str (ca_cons (ce_ix c (ce_var (i := 0) c rfl (vis_by rfl)) ce_int) ca_nil))) (ca_cons (ce_tup (ca_cons ce_str (ca_cons (ce_ix c (ce_var (i := 0) c rfl (vis_by rfl)) ce_int) ca_nil))) (ca_cons (ce_tup (ca_cons ce_str (ca_cons (ce_ix c (ce_var (i := 0) c rfl (vis_by rfl)) ce_int) (ca_cons (ce_ix c (ce_var (i := 0) c rfl (vis_by rfl)) ce_int) (ca_cons (ce_ix c (ce_var (i := 0) c rfl (vis_by rfl)) ce_int) ca_nil))))) ca_nil)))))
  (css_cons (cs_for c (ci_range2 c rfl b_range (ca_cons ce_int (ca_cons ce_int ca_nil))) (cg_name (i := 2) c rfl (loc_by rfl) (fnT hf)) (css_one (cs_expr (ce_append c (ce_var (i := 1) c rfl (vis_by rfl)) (ca_cons (ce_tup (ca_cons ce_str (ca_cons (ce_ix c (ce_var (i := 0) c rfl (vis_by rfl)) (ce_var (i := 2) c rfl (vis_by rfl))) (ca_cons (ce_ix c (ce_var (i := 0) c rfl (vis_by rfl)) (ce_sub c (ce_var (i := 2) c rfl (vis_by rfl)) ce_int)) (ca_cons (ce_ix c (ce_var (i := 0) c rfl (vis_by rfl)) (ce_mod c (ce_var (i := 2) c rfl (vis_by rfl)) ce_int)) ca_nil))))) ca_nil)))))
  (css_one (cs_ret (ce_tuple c b_tuple (ca_cons (ce_var (i := 1) c rfl (vis_by rfl)) ca_nil))))))
theorem C__law_chain {G : Gd} {fd : FuncData} (b_range : G.mg "range" = none) (b_tuple : G.mg "tuple" = none) (F : FunD G.K "_law_chain" "_law_chain" (defArgs (top 18)) (defBody (top 18)) (defScope (top 18)) [] [] (He.ga G.K "_law_chain") fd) (g : G.mg "_law_chain" = some (.ref (He.ga G.K "_law_chain"))) : Cal G 1 "_law_chain" ["_law_names_here"] f__law_chain :=
  cal_D F sc__law_chain g (fun _ _ _ _ _ _ us hl => match us, hl with | [_], _ => rfl) (w__law_chain b_range b_tuple)
/-! ### law -/
noncomputable def m_law : MS := (mSeq (mAsg (mCall 1 f__law_deck (mCons (mVar 0) mNil)) (gN 1))
  (mSeq (mFor (mRng rng1 (mCons (mC (.int 6)) mNil)) (gN 2) (mSeq (mAsg (mCall 1 f__law_names (mCons (mVar 1) mNil)) (gN 3))
  (mSeq (mAsg (mCall 4 f__law_sketch (mCons (mVar 1) (mCons (mVar 3) (mCons (mBin opIx (mLst (mCons (mC (.int 14)) (mCons (mBin opAdd (mC (.int 2)) (mCall 2 f__law_draw (mCons (mVar 1) (mCons (mC (.int 12)) mNil)))) mNil))) (mCB fInt1 (mCons (mBin opGt (mVar 2) (mC (.int 0))) mNil))) (mCons (mCall 1 f__law_words (mCons (mC (.bl true)) mNil)) mNil))))) (gN 4))
  (mIfS (mNotT (mTest (mCall 2 f__law_right (mCons (mVar 1) (mCons (mVar 4) mNil))))) (mRet (mC (.bl false))) mNext))))
  (mRet (mAndV (mCall 2 f__law_right (mCons (mVar 1) (mCons (mCall 1 f__law_chain (mCons (mVar 3) mNil)) mNil))) (mCall 2 f__law_right (mCons (mVar 1) (mCons (mSl (mCall 1 f__law_chain (mCons (mVar 3) mNil)) mNoPart (mPart (mC (.int 2)))) mNil)))))))
noncomputable def f_law : MF := callD 5 m_law
theorem sc_law : FnScope ["_law_script", "_law_deck_here", "_law_lap", "_law_names_here", "_law_steps"] ["_law_script"] (defScope (top 19)) := ⟨rfl, rfl, rfl, by decide +kernel, rfl, by decide +kernel, by decide +kernel⟩
theorem w_law {G : Gd} (b_range : G.mg "range" = none) (b_int : G.mg "int" = none) (C__law_deck : Cal G 1 "_law_deck" ["_law_script"] f__law_deck) (C__law_names : Cal G 2 "_law_names" ["_law_deck_here"] f__law_names) (C__law_sketch : Cal G 4 "_law_sketch" ["_law_deck_here", "_law_names_here", "_law_many", "_law_words_here"] f__law_sketch) (C__law_words : Cal G 1 "_law_words" ["_law_with_cross"] f__law_words) (C__law_draw : Cal G 1 "_law_draw" ["_law_deck_here", "_law_most"] f__law_draw) (C__law_right : Cal G 3 "_law_right" ["_law_deck_here", "_law_steps"] f__law_right) (C__law_chain : Cal G 1 "_law_chain" ["_law_names_here"] f__law_chain) (X : Cx) (E : XK) (c : Cq G 4 E ["_law_script", "_law_deck_here", "_law_lap", "_law_names_here", "_law_steps"] (defScope (top 19)) X) (hf : X.fn = fun _ => true) : PSs X (defBody (top 19)) (sD G.K E m_law) := by
  have hj__law_deck : 1 ≤ 4 := by decide
  have hj__law_names : 2 ≤ 4 := by decide
  have hj__law_sketch : 4 ≤ 4 := by decide
  have hj__law_words : 1 ≤ 4 := by decide
  have hj__law_draw : 1 ≤ 4 := by decide
  have hj__law_right : 3 ≤ 4 := by decide
  have hj__law_chain : 1 ≤ 4 := by decide
  exact (css_cons (cs_set (i := 1) c rfl (loc_by rfl) (fnT hf) (ce_call C__law_deck hj__law_deck c rfl (ca_cons (ce_var (i := 0) c rfl (vis_by rfl)) ca_nil)))
  (css_cons (cs_for c (ci_range1 c rfl b_range (ca_cons ce_int ca_nil)) (cg_name (i := 2) c rfl (loc_by rfl) (fnT hf)) (css_cons (cs_set (i := 3) c rfl (loc_by rfl) (fnT hf) (ce_call C__law_names hj__law_names c rfl (ca_cons (ce_var (i := 1) c rfl (vis_by rfl)) ca_nil)))
  (css_cons (cs_set (i := 4) c rfl (loc_by rfl) (fnT hf) (ce_call C__law_sketch hj__law_sketch c rfl (ca_cons (ce_var (i := 1) c rfl (vis_by rfl)) (ca_cons (ce_var (i := 3) c rfl (vis_by rfl)) (ca_cons (ce_ix c (ce_lst (ca_cons ce_int (ca_cons (ce_add c ce_int (ce_call C__law_draw hj__law_draw c rfl (ca_cons (ce_var (i := 1) c rfl (vis_by rfl)) (ca_cons ce_int ca_nil)))) ca_nil))) (ce_int1 c b_int (ca_cons (ce_gt c (ce_var (i := 2) c rfl (vis_by rfl)) ce_int) ca_nil))) (ca_cons (ce_call C__law_words hj__law_words c rfl (ca_cons ce_bl ca_nil)) ca_nil))))))
  (css_one (cs_if (ct_not (ct_val (ce_call C__law_right hj__law_right c rfl (ca_cons (ce_var (i := 1) c rfl (vis_by rfl)) (ca_cons (ce_var (i := 4) c rfl (vis_by rfl)) ca_nil))))) (css_one (cs_ret ce_bl)) css_nil)))))
  (css_one (cs_ret (ce_and (ce_call C__law_right hj__law_right c rfl (ca_cons (ce_var (i := 1) c rfl (vis_by rfl)) (ca_cons (ce_call C__law_chain hj__law_chain c rfl (ca_cons (ce_var (i := 3) c rfl (vis_by rfl)) ca_nil)) ca_nil))) (ce_one (ce_call C__law_right hj__law_right c rfl (ca_cons (ce_var (i := 1) c rfl (vis_by rfl)) (ca_cons (ce_sl c (ce_call C__law_chain hj__law_chain c rfl (ca_cons (ce_var (i := 3) c rfl (vis_by rfl)) ca_nil)) co_none (co_some ce_int)) ca_nil)))))))))
theorem C_law {G : Gd} {fd : FuncData} (b_range : G.mg "range" = none) (b_int : G.mg "int" = none) (C__law_deck : Cal G 1 "_law_deck" ["_law_script"] f__law_deck) (C__law_names : Cal G 2 "_law_names" ["_law_deck_here"] f__law_names) (C__law_sketch : Cal G 4 "_law_sketch" ["_law_deck_here", "_law_names_here", "_law_many", "_law_words_here"] f__law_sketch) (C__law_words : Cal G 1 "_law_words" ["_law_with_cross"] f__law_words) (C__law_draw : Cal G 1 "_law_draw" ["_law_deck_here", "_law_most"] f__law_draw) (C__law_right : Cal G 3 "_law_right" ["_law_deck_here", "_law_steps"] f__law_right) (C__law_chain : Cal G 1 "_law_chain" ["_law_names_here"] f__law_chain) (F : FunD G.K "law" "law" (defArgs (top 19)) (defBody (top 19)) (defScope (top 19)) [] [] (He.ga G.K "law") fd) (g : G.mg "law" = some (.ref (He.ga G.K "law"))) : Cal G 5 "law" ["_law_script"] f_law :=
  cal_D F sc_law g (fun _ _ _ _ _ _ us hl => match us, hl with | [_], _ => rfl) (w_law b_range b_int C__law_deck C__law_names C__law_sketch C__law_words C__law_draw C__law_right C__law_chain)
/-! ### the head -/
def d_names_in : He.DefD := ⟨("names_in", none), "names_in", "names_in", defArgs (top 1), defBody (top 1), defScope (top 1), [], []⟩
def d_hanging : He.DefD := ⟨("hanging", none), "hanging", "hanging", defArgs (top 2), defBody (top 2), defScope (top 2), [], []⟩
def d_needed : He.DefD := ⟨("needed", none), "needed", "needed", defArgs (top 3), defBody (top 3), defScope (top 3), [], []⟩
def d__law_deck : He.DefD := ⟨("_law_deck", none), "_law_deck", "_law_deck", defArgs (top 5), defBody (top 5), defScope (top 5), [], []⟩
def d__law_draw : He.DefD := ⟨("_law_draw", none), "_law_draw", "_law_draw", defArgs (top 6), defBody (top 6), defScope (top 6), [], []⟩
def d__law_pick : He.DefD := ⟨("_law_pick", none), "_law_pick", "_law_pick", defArgs (top 7), defBody (top 7), defScope (top 7), [], []⟩
def d__law_names : He.DefD := ⟨("_law_names", none), "_law_names", "_law_names", defArgs (top 8), defBody (top 8), defScope (top 8), [], []⟩
def d__law_forms : He.DefD := ⟨("_law_forms", none), "_law_forms", "_law_forms", defArgs (top 9), defBody (top 9), defScope (top 9), [], []⟩
def d__law_sort : He.DefD := ⟨("_law_sort", none), "_law_sort", "_law_sort", defArgs (top 10), defBody (top 10), defScope (top 10), [], []⟩
def d__law_others : He.DefD := ⟨("_law_others", none), "_law_others", "_law_others", defArgs (top 11), defBody (top 11), defScope (top 11), [], []⟩
def d__law_next : He.DefD := ⟨("_law_next", none), "_law_next", "_law_next", defArgs (top 12), defBody (top 12), defScope (top 12), [], []⟩
def d__law_words : He.DefD := ⟨("_law_words", none), "_law_words", "_law_words", defArgs (top 13), defBody (top 13), defScope (top 13), [], []⟩
def d__law_sketch : He.DefD := ⟨("_law_sketch", none), "_law_sketch", "_law_sketch", defArgs (top 14), defBody (top 14), defScope (top 14), [], []⟩
def d__law_hanging : He.DefD := ⟨("_law_hanging", none), "_law_hanging", "_law_hanging", defArgs (top 15), defBody (top 15), defScope (top 15), [], []⟩
def d__law_needed : He.DefD := ⟨("_law_needed", none), "_law_needed", "_law_needed", defArgs (top 16), defBody (top 16), defScope (top 16), [], []⟩
def d__law_right : He.DefD := ⟨("_law_right", none), "_law_right", "_law_right", defArgs (top 17), defBody (top 17), defScope (top 17), [], []⟩
def d__law_chain : He.DefD := ⟨("_law_chain", none), "_law_chain", "_law_chain", defArgs (top 18), defBody (top 18), defScope (top 18), [], []⟩
def d_law : He.DefD := ⟨("law", none), "law", "law", defArgs (top 19), defBody (top 19), defScope (top 19), [], []⟩
def fn : List He.DefD := [d_names_in, d_hanging, d_needed, d__law_deck, d__law_draw, d__law_pick, d__law_names, d__law_forms, d__law_sort, d__law_others, d__law_next, d__law_words, d__law_sketch, d__law_hanging, d__law_needed, d__law_right, d__law_chain, d_law]
def fa : List He.Fa := [.glo "names_in", .glo "hanging", .glo "needed", .glo "_law_deck", .glo "_law_draw", .glo "_law_pick", .glo "_law_names", .glo "_law_forms", .glo "_law_sort", .glo "_law_others", .glo "_law_next", .glo "_law_words", .glo "_law_sketch", .glo "_law_hanging", .glo "_law_needed", .glo "_law_right", .glo "_law_chain", .glo "law", .free "str", .free "isinstance", .free "tuple", .free "enumerate", .free "any", .free "len", .free "range", .free "list", .free "int", .free "max", .free "repr"]
abbrev R : PySem.W.OpenRow := PySem.W.OpenLaw.row PySem.Challenge.rw_pointhouse_k17_what_hangs_on_what
abbrev hk : PySem.W.Hook := He.hookD 4 fa fn
def ob (s : PySem.W.SharedT) : He.AlD := He.obsDG 4 fa fn (HandSHeadRun.getT s)
theorem ob_eq (s : PySem.W.SharedT) : ob s = hk.obs s.abs := He.obsDG_eq (HandSHeadRun.getT_eq s)
def names : List PySem.Str := ["names_in", "hanging", "needed", "_law_deck", "_law_draw", "_law_pick", "_law_names", "_law_forms", "_law_sort", "_law_others", "_law_next", "_law_words", "_law_sketch", "_law_hanging", "_law_needed", "_law_right", "_law_chain"]
set_option maxHeartbeats 0 in
theorem run (w : World) : HandSHeadRun.RunEq R (PySem.W.view R.prog [19]) hk ob 2000 names w := by
  intro os
  kernel_rfl
theorem facts {P : Program} {w : World} {K : PySem.W.Frag} {h base : Heap} {mg : Str → Option Value} (X : K.In h) (G : h.Ns mainGlobals mg) (c : He.SaysD fa fn K) : Cal ⟨P, w, K, mg, base⟩ 5 "law" ["_law_script"] f_law := by
  have b_str : mg "str" = none := He.free_ok X G (c.fact 18 (f := .free "str") rfl)
  have b_isinstance : mg "isinstance" = none := He.free_ok X G (c.fact 19 (f := .free "isinstance") rfl)
  have b_tuple : mg "tuple" = none := He.free_ok X G (c.fact 20 (f := .free "tuple") rfl)
  have b_enumerate : mg "enumerate" = none := He.free_ok X G (c.fact 21 (f := .free "enumerate") rfl)
  have b_any : mg "any" = none := He.free_ok X G (c.fact 22 (f := .free "any") rfl)
  have b_len : mg "len" = none := He.free_ok X G (c.fact 23 (f := .free "len") rfl)
  have b_range : mg "range" = none := He.free_ok X G (c.fact 24 (f := .free "range") rfl)
  have b_list : mg "list" = none := He.free_ok X G (c.fact 25 (f := .free "list") rfl)
  have b_int : mg "int" = none := He.free_ok X G (c.fact 26 (f := .free "int") rfl)
  have b_max : mg "max" = none := He.free_ok X G (c.fact 27 (f := .free "max") rfl)
  have b_repr : mg "repr" = none := He.free_ok X G (c.fact 28 (f := .free "repr") rfl)
  obtain ⟨_, F_names_in⟩ := c.def_ 0 (d := d_names_in) rfl
  have k_names_in := C_names_in (G := ⟨P, w, K, mg, base⟩) b_str b_isinstance b_tuple F_names_in (He.glo_ok X G (c.fact 0 (f := .glo "names_in") rfl))
  obtain ⟨_, F_hanging⟩ := c.def_ 1 (d := d_hanging) rfl
  have k_hanging := C_hanging (G := ⟨P, w, K, mg, base⟩) b_enumerate b_any b_tuple k_names_in F_hanging (He.glo_ok X G (c.fact 1 (f := .glo "hanging") rfl))
  obtain ⟨_, F_needed⟩ := c.def_ 2 (d := d_needed) rfl
  have k_needed := C_needed (G := ⟨P, w, K, mg, base⟩) b_len b_range b_tuple k_names_in F_needed (He.glo_ok X G (c.fact 2 (f := .glo "needed") rfl))
  obtain ⟨_, F__law_deck⟩ := c.def_ 3 (d := d__law_deck) rfl
  have k__law_deck := C__law_deck (G := ⟨P, w, K, mg, base⟩) b_list F__law_deck (He.glo_ok X G (c.fact 3 (f := .glo "_law_deck") rfl))
  obtain ⟨_, F__law_draw⟩ := c.def_ 4 (d := d__law_draw) rfl
  have k__law_draw := C__law_draw (G := ⟨P, w, K, mg, base⟩) F__law_draw (He.glo_ok X G (c.fact 4 (f := .glo "_law_draw") rfl))
  obtain ⟨_, F__law_pick⟩ := c.def_ 5 (d := d__law_pick) rfl
  have k__law_pick := C__law_pick (G := ⟨P, w, K, mg, base⟩) b_len k__law_draw F__law_pick (He.glo_ok X G (c.fact 5 (f := .glo "_law_pick") rfl))
  obtain ⟨_, F__law_names⟩ := c.def_ 6 (d := d__law_names) rfl
  have k__law_names := C__law_names (G := ⟨P, w, K, mg, base⟩) b_range b_enumerate k__law_draw F__law_names (He.glo_ok X G (c.fact 6 (f := .glo "_law_names") rfl))
  obtain ⟨_, F__law_forms⟩ := c.def_ 7 (d := d__law_forms) rfl
  have k__law_forms := C__law_forms (G := ⟨P, w, K, mg, base⟩) F__law_forms (He.glo_ok X G (c.fact 7 (f := .glo "_law_forms") rfl))
  obtain ⟨_, F__law_sort⟩ := c.def_ 8 (d := d__law_sort) rfl
  have k__law_sort := C__law_sort (G := ⟨P, w, K, mg, base⟩) F__law_sort (He.glo_ok X G (c.fact 8 (f := .glo "_law_sort") rfl))
  obtain ⟨_, F__law_others⟩ := c.def_ 9 (d := d__law_others) rfl
  have k__law_others := C__law_others (G := ⟨P, w, K, mg, base⟩) F__law_others (He.glo_ok X G (c.fact 9 (f := .glo "_law_others") rfl))
  obtain ⟨_, F__law_next⟩ := c.def_ 10 (d := d__law_next) rfl
  have k__law_next := C__law_next (G := ⟨P, w, K, mg, base⟩) b_len k__law_pick k__law_draw k__law_sort k__law_others k__law_forms F__law_next (He.glo_ok X G (c.fact 10 (f := .glo "_law_next") rfl))
  obtain ⟨_, F__law_words⟩ := c.def_ 11 (d := d__law_words) rfl
  have k__law_words := C__law_words (G := ⟨P, w, K, mg, base⟩) b_int F__law_words (He.glo_ok X G (c.fact 11 (f := .glo "_law_words") rfl))
  obtain ⟨_, F__law_sketch⟩ := c.def_ 12 (d := d__law_sketch) rfl
  have k__law_sketch := C__law_sketch (G := ⟨P, w, K, mg, base⟩) b_max b_range b_tuple k__law_draw k__law_next F__law_sketch (He.glo_ok X G (c.fact 12 (f := .glo "_law_sketch") rfl))
  obtain ⟨_, F__law_hanging⟩ := c.def_ 13 (d := d__law_hanging) rfl
  have k__law_hanging := C__law_hanging (G := ⟨P, w, K, mg, base⟩) b_enumerate b_str b_isinstance F__law_hanging (He.glo_ok X G (c.fact 13 (f := .glo "_law_hanging") rfl))
  obtain ⟨_, F__law_needed⟩ := c.def_ 14 (d := d__law_needed) rfl
  have k__law_needed := C__law_needed (G := ⟨P, w, K, mg, base⟩) b_list b_str b_isinstance b_enumerate F__law_needed (He.glo_ok X G (c.fact 14 (f := .glo "_law_needed") rfl))
  obtain ⟨_, F__law_right⟩ := c.def_ 15 (d := d__law_right) rfl
  have k__law_right := C__law_right (G := ⟨P, w, K, mg, base⟩) b_repr b_tuple b_range k__law_hanging k_hanging k__law_needed k_needed k__law_draw k__law_pick F__law_right (He.glo_ok X G (c.fact 15 (f := .glo "_law_right") rfl))
  obtain ⟨_, F__law_chain⟩ := c.def_ 16 (d := d__law_chain) rfl
  have k__law_chain := C__law_chain (G := ⟨P, w, K, mg, base⟩) b_range b_tuple F__law_chain (He.glo_ok X G (c.fact 16 (f := .glo "_law_chain") rfl))
  obtain ⟨_, F_law⟩ := c.def_ 17 (d := d_law) rfl
  exact C_law (G := ⟨P, w, K, mg, base⟩) b_range b_int k__law_deck k__law_names k__law_sketch k__law_words k__law_draw k__law_right k__law_chain F_law (He.glo_ok X G (c.fact 17 (f := .glo "law") rfl))
end Wk17
open PySem PySem.W PySem.Calls PyProof.Rows in
theorem Wk17.holds_of (math : ∀ ns : List Int, ns.length ≤ 63 → (∀ z ∈ ns, Builtin.Int.intBits z ≤ 1048576) → ∃ M', Wk17.f_law [Ly.scriptD ns] [] = .ok (.bl true) M') : PySem.Challenge.rw_pointhouse_k17_what_hangs_on_what.Holds := by
  w_on; o_law
  refine HandSHeadRun.head_any (r := OpenLaw.row PySem.Challenge.rw_pointhouse_k17_what_hangs_on_what) (q := view (OpenLaw.row PySem.Challenge.rw_pointhouse_k17_what_hangs_on_what).prog [19]) (H := Wk17.hk) (ob := Wk17.ob) (M := 2000) (loose := Wk17.names) (d := HandSHeadRun.topDef (OpenLaw.row PySem.Challenge.rw_pointhouse_k17_what_hangs_on_what).prog 19) (kwd := []) Wk17.ob_eq
    (by kernel_rfl) (fun s => by kernel_rfl) Wk17.run (by kernel_rfl) (by kernel_rfl) (by kernel_rfl) (by rfl) (by first | assumption | decide +kernel) (by decide +kernel) ⟨rfl, rfl, rfl, rfl, rfl, by decide +kernel⟩ ?hw ?hc
  case hw => w_witness2
  case hc =>
    refine Ly.walk_data (l := PySem.Challenge.rw_pointhouse_k17_what_hangs_on_what) (n := 63) (k := 5) (x := "law") (y := "_law_script") (f := Wk17.f_law) rfl (by decide) (by kernel_rfl) ⟨rfl, by decide, by decide⟩ ?F math
    intro w mg fa h Y G hmg0
    obtain ⟨K, KX, c⟩ := Y
    have hmg : mg ("law" : PySem.Str) = some (.ref fa) := by
      have e : (HandSHeadRun.topDef (OpenLaw.row PySem.Challenge.rw_pointhouse_k17_what_hangs_on_what).prog 19).name = ("law" : PySem.Str) := by kernel_rfl
      rw [← e]
      exact hmg0
    have e := hmg.symm.trans (He.glo_ok KX G (c.fact 17 (f := .glo "law") rfl))
    cases e
    exact ⟨K, KX, rfl, fun base _ _ => Wk17.facts KX G c⟩

namespace Wk17
open PySem PySem.Spec PyProof.Rows L2 Ly
theorem draw_ok {b : Nat} {T M : Mem} {m : Int} {Q : D → Mem → Prop} (h : DkIs b T M) (hb : b ≤ 1000000) (hm : 0 < m) (hm2 : m < 1073741824) (q : ∀ r M', 0 ≤ r → r < m → DkIs (b + 1) T M' → Q (.int r) M') : Go (f__law_draw [.ref 1, .int m] M) Q := by
  have h0 := h
  obtain ⟨xs, s, c, rfl, xl, s0, s1, c0, c1⟩ := h
  have mn : m ≠ 0 := by omega
  have fin : ∀ (xs' : List Int) (r : Int), xs'.length ≤ 99 → 0 ≤ r → r < m → Go (finish (dk xs s c T) (.int r) (dk xs' s (c + 1) T)) Q := fun xs' r rl r0 r1 =>
    go_fin_dk0 (b' := b + 1) h0 ⟨xs', s, c + 1, rfl, rl, s0, s1, by omega, by omega⟩ (frz_low rfl) fun M2 h2 => q r M2 r0 r1 h2
  have tail : ∀ (xs' : List Int) (cell : Int), xs'.length ≤ 99 → GoS ((mSeq (mAsg (mBin opAdd (mBin opAdd (mBin opMod (mVar 2) (mC (.int 2147483629))) (mBin opMul (mBin opMul (mC (.int 130363)) (mBin opIx (mVar 0) (mC (.int 2)))) (mBin opIx (mVar 0) (mC (.int 2))))) (mBin opIx (mVar 0) (mC (.int 1)))) (gN 3))
      (mSeq (mAsg (mBin opMod (mBin opAdd (mBin opMul (mVar 3) (mC (.int 48271))) (mBin opMul (mC (.int 40692)) (mBin opIx (mVar 0) (mC (.int 2))))) (mC (.int 2147483563))) (gN 3))
      (mSeq (mAsg (mBin opMod (mBin opAdd (mBin opMul (mVar 3) (mVar 3)) (mC (.int 31))) (mC (.int 2147483587))) (gN 3))
      (mRet (mBin opMod (mBin opFdiv (mBin opMod (mBin opMul (mVar 3) (mC (.int 16807))) (mC (.int 2147483647))) (mC (.int 64))) (mVar 1)))))) [some (.ref 1), some (.int m), some (.int cell), none] (dk xs' s (c + 1) T)) (fun _ M' => Go (finish (dk xs s c T) .non M') Q) fun d M' => Go (finish (dk xs s c T) d M') Q := by
    intro xs' cell xl'
    have e1 : (dk xs' s (c + 1) T)[1]? = some (.lst [.ref 0, .int s, .int (c + 1)]) := rfl
    have a2 : atI [D.ref 0, .int s, .int (c + 1)] 2 = some (.int (c + 1)) := rfl
    have a1 : atI [D.ref 0, .int s, .int (c + 1)] 1 = some (.int s) := rfl
    simp only [go_seq, go_setItem, go_bin, go_un, go_var, go_c, go_test, go_andT, go_orT, go_notT, go_yes, go_andV, go_if, go_nil, go_cons, go_tup, go_lst, go_lstC, go_cb, go_call, go_meth, go_noPart, go_part, go_sl, go_get, go_next, go_drop, go_ret, go_retN, go_ifS, go_set, go_for, go_lc, go_dc, go_iter, go_enum, go_rng, go_rng1, go_rng2, go_rng3, go_disp, go_pnil, go_pcons, go_bdT, go_bdF, go_ok, go_nx, go_rt, go_addI, go_addS, go_addT, go_addL, go_subI, go_mulI, go_mulL, go_modI, go_fdivI, go_powI, go_ltI, go_leI, go_gtI, go_geI, go_eqI, go_eqS, go_neI, go_neS, go_ixF, go_ixT, go_ixS, go_ixD, go_slT, go_slF, go_slR, go_slS, go_revF, go_revCF, go_revAT, go_revAL, List.getElem?_cons_zero, List.getElem?_cons_succ, List.set_cons_zero, List.set_cons_succ, List.length_cons, List.length_nil, D.int.injEq, D.bl.injEq, D.str.injEq, Option.some.injEq, exists_eq_left', go_listF, go_listT, go_tupleF, go_tupleT, go_lenF, go_lenT, go_lenS, go_isiS, go_isiI, go_intI, go_intB, go_maxI, it_lst, it_tupD, it_strD, en_lst, en_tup, fr_gN, wipeD, go_ixL e1, a1, a2, Option.some.injEq, exists_eq_left']
    generalize hn0 : cell.fmod 2147483629 = n0
    have n0a : 0 ≤ n0 := by rw [← hn0]; exact Int.fmod_nonneg_of_pos _ (by decide)
    have n0b : n0 < 2147483629 := by rw [← hn0]; exact Int.fmod_lt_of_pos _ (by decide)
    have cc : 0 ≤ (c + 1) * (c + 1) ∧ (c + 1) * (c + 1) ≤ 1000001 * 1000001 := ⟨Int.mul_nonneg (by omega) (by omega), Int.mul_le_mul (by omega) (by omega) (by omega) (by decide)⟩
    have c3 : 130363 * (c + 1) * (c + 1) = 130363 * ((c + 1) * (c + 1)) := Int.mul_assoc _ _ _
    rw [c3]
    generalize hn1 : n0 + 130363 * ((c + 1) * (c + 1)) + s = n1
    have n1a : 0 ≤ n1 ∧ n1 < 2 ^ 70 := by omega
    generalize hn2 : (n1 * 48271 + 40692 * (c + 1)).fmod 2147483563 = n2
    have n2a : 0 ≤ n2 := by rw [← hn2]; exact Int.fmod_nonneg_of_pos _ (by decide)
    have n2b : n2 < 2147483563 := by rw [← hn2]; exact Int.fmod_lt_of_pos _ (by decide)
    generalize hn3 : (n2 * n2 + 31).fmod 2147483587 = n3
    have n3a : 0 ≤ n3 := by rw [← hn3]; exact Int.fmod_nonneg_of_pos _ (by decide)
    have n3b : n3 < 2147483587 := by rw [← hn3]; exact Int.fmod_lt_of_pos _ (by decide)
    refine ⟨by decide, cmulW (by omega) (by omega), cmulW (by omega) (by omega), cmulW (by omega) (by omega), cmulW (by omega) (by omega), by decide, cmulW (by omega) (by omega), by decide, cmulW (by omega) (by omega), by decide, ⟨by decide, by decide⟩, mn, ?_⟩
    exact fin _ _ xl' (Int.fmod_nonneg_of_pos _ hm) (Int.fmod_lt_of_pos _ hm)
  rw [f__law_draw, go_callD, show startD 4 [D.ref 1, .int m] = [some (.ref 1), some (.int m), none, none] from rfl, m__law_draw]
  have e0 : (dk xs s c T)[1]? = some (.lst [.ref 0, .int s, .int c]) := rfl
  have e1 : (dk xs s (c + 1) T)[1]? = some (.lst [.ref 0, .int s, .int (c + 1)]) := rfl
  have z2 : atI [D.ref 0, .int s, .int c] 2 = some (.int c) := rfl
  have a2 : atI [D.ref 0, .int s, .int (c + 1)] 2 = some (.int (c + 1)) := rfl
  have a1 : atI [D.ref 0, .int s, .int (c + 1)] 1 = some (.int s) := rfl
  have a0 : atI [D.ref 0, .int s, .int (c + 1)] 0 = some (.ref 0) := rfl
  have w : setM (dk xs s c T) (.ref 1) (.int 2) (.int (c + 1)) = some (dk xs s (c + 1) T) := rfl
  have x0 : (dk xs s (c + 1) T)[0]? = some (.lst (xs.map .int)) := rfl
  rw [go_seq, go_setItem]
  simp only [go_bin, go_c, go_var, go_ixL e0, z2, Option.some.injEq, exists_eq_left', go_addI, List.getElem?_cons_zero, w]
  rw [go_seq, go_set]
  simp only [go_bin, go_c, go_var, go_ixL e1, a1, Option.some.injEq, exists_eq_left', List.getElem?_cons_zero, List.set_cons_succ, List.set_cons_zero]
  rw [go_seq, go_ifS]
  simp only [go_test, go_bin, go_c, go_var, go_ixL e1, a0, Option.some.injEq, exists_eq_left', List.getElem?_cons_zero, go_lst, go_nil, go_neE x0, D.bl.injEq, List.length_nil]
  refine ⟨by decide, ?_⟩
  rcases List.eq_nil_or_concat xs with rfl | ⟨ys, l, e⟩
  · rw [if_neg (by decide), go_next]
    exact tail [] s (by decide)
  · rw [List.concat_eq_append] at e
    subst e
    rw [if_pos (by simp)]
    have yl : ys.length ≤ 98 := by
      rw [List.length_append, List.length_singleton] at xl
      omega
    have y0 : (dk (ys ++ [l]) s (c + 1) T)[0]? = some (.lst (ys.map .int ++ [.int l])) := by
      rw [x0, List.map_append]
      rfl
    have pl : (ys.map D.int ++ [D.int l])[(ys.map D.int ++ [D.int l]).length - 1]? = some (.int l) := by simp
    have w2 : (dk (ys ++ [l]) s (c + 1) T).set 0 (.lst (ys.map D.int ++ [D.int l]).dropLast) = dk ys s (c + 1) T := by
      rw [List.dropLast_concat]
      rfl
    have f1 : (dk ys s (c + 1) T)[1]? = some (.lst [.ref 0, .int s, .int (c + 1)]) := rfl
    have f0 : (dk ys s (c + 1) T)[0]? = some (.lst (ys.map .int)) := rfl
    have w3 : (dk ys s (c + 1) T).set 0 (.lst (ys.map D.int ++ [.int (l.fdiv m)])) = dk (ys ++ [l.fdiv m]) s (c + 1) T := by
      show _ :: _ = _ :: _
      rw [List.map_append]
      rfl
    rw [go_seq, go_set]
    simp only [go_meth, go_bin, go_c, go_var, go_ixL e1, a0, Option.some.injEq, exists_eq_left', List.getElem?_cons_zero, List.getElem?_cons_succ, go_nil, isLst_ref y0, go_pop y0, pl, w2, true_and, List.set_cons_succ, List.set_cons_zero]
    rw [go_ifS]
    simp only [go_test, go_bin, go_c, go_var, List.getElem?_cons_zero, List.getElem?_cons_succ, go_powI, go_geI]
    refine ⟨⟨by decide, by decide, by decide⟩, _, rfl, ?_⟩
    split
    · rw [go_seq, go_drop]
      simp only [go_meth, go_bin, go_c, go_var, go_ixL f1, a0, Option.some.injEq, exists_eq_left', List.getElem?_cons_zero, List.getElem?_cons_succ, go_nil, go_cons, isLst_ref f0, true_and, go_fdivI, go_append f0, w3, go_ret, go_modI]
      refine ⟨⟨mn, by omega⟩, ?_, mn, ?_⟩
      · rw [List.length_map]
        omega
      · exact fin _ _ (by rw [List.length_append, List.length_singleton]; omega) (Int.fmod_nonneg_of_pos _ hm) (Int.fmod_lt_of_pos _ hm)
    · rw [go_next]
      exact tail ys l (by omega)
theorem cut_ints (ns : List Int) (lo hi : Option Int) : ∃ xs : List Int, cutD (ns.map .int) lo hi = xs.map .int ∧ xs.length ≤ ns.length := by
  refine ⟨(ns.drop (HT.sIx (ns.map D.int).length 0 lo)).take (HT.sIx (ns.map D.int).length (ns.map D.int).length hi - HT.sIx (ns.map D.int).length 0 lo), ?_, ?_⟩
  · unfold Ly.cutD
    rw [List.map_take, List.map_drop]
  · rw [List.length_take, List.length_drop]
    omega
theorem deck_ok {ns : List Int} (hn : ns.length ≤ 63) {Q : D → Mem → Prop} (q : ∀ M, DkIs 0 [] M → Q (.ref 1) M) : Go (f__law_deck [scriptD ns] []) Q := by
  obtain ⟨xs, hx, xl⟩ := cut_ints ns none (some 63)
  rw [f__law_deck, go_callK, show startD 4 [scriptD ns] = [some (.scr (ns.map .int)), none, none, none] from rfl, m__law_deck]
  simp only [go_seq, go_setItem, go_bin, go_un, go_var, go_c, go_test, go_andT, go_orT, go_notT, go_yes, go_andV, go_if, go_nil, go_cons, go_tup, go_lst, go_lstC, go_cb, go_call, go_meth, go_noPart, go_part, go_sl, go_get, go_next, go_drop, go_ret, go_retN, go_ifS, go_set, go_for, go_lc, go_dc, go_iter, go_enum, go_rng, go_rng1, go_rng2, go_rng3, go_disp, go_pnil, go_pcons, go_bdT, go_bdF, go_ok, go_nx, go_rt, go_addI, go_addS, go_addT, go_addL, go_subI, go_mulI, go_mulL, go_modI, go_fdivI, go_powI, go_ltI, go_leI, go_gtI, go_geI, go_eqI, go_eqS, go_neI, go_neS, go_ixF, go_ixT, go_ixS, go_ixD, go_slT, go_slF, go_slR, go_slS, go_revF, go_revCF, go_revAT, go_revAL, List.getElem?_cons_zero, List.getElem?_cons_succ, List.set_cons_zero, List.set_cons_succ, List.length_cons, List.length_nil, D.int.injEq, D.bl.injEq, D.str.injEq, Option.some.injEq, exists_eq_left', go_listF, go_listT, go_tupleF, go_tupleT, go_lenF, go_lenT, go_lenS, go_isiS, go_isiI, go_intI, go_intB, go_maxI, it_lst, it_tupD, it_strD, en_lst, en_tup, fr_gN, wipeD, hx]
  refine go_loop (fun ds env M => M = [] ∧ (∃ ys : List Int, ds = ys.map .int) ∧ ∃ s x, env = [some (.scr (ns.map .int)), some (.lst (xs.map .int)), some (.int s), x] ∧ 0 ≤ s ∧ s < 2147483629) ?_ ?_ _ _ _ ⟨rfl, ⟨xs, rfl⟩, _, _, rfl, by decide, by decide⟩
  · rintro d ds env M ⟨rfl, ⟨ys, e⟩, s, x, rfl, s0, s1⟩
    refine ⟨trivial, _, rfl, ?_⟩
    cases ys with
    | nil => cases e
    | cons y ys =>
      cases e
      simp only [go_seq, go_setItem, go_bin, go_un, go_var, go_c, go_test, go_andT, go_orT, go_notT, go_yes, go_andV, go_if, go_nil, go_cons, go_tup, go_lst, go_lstC, go_cb, go_call, go_meth, go_noPart, go_part, go_sl, go_get, go_next, go_drop, go_ret, go_retN, go_ifS, go_set, go_for, go_lc, go_dc, go_iter, go_enum, go_rng, go_rng1, go_rng2, go_rng3, go_disp, go_pnil, go_pcons, go_bdT, go_bdF, go_ok, go_nx, go_rt, go_addI, go_addS, go_addT, go_addL, go_subI, go_mulI, go_mulL, go_modI, go_fdivI, go_powI, go_ltI, go_leI, go_gtI, go_geI, go_eqI, go_eqS, go_neI, go_neS, go_ixF, go_ixT, go_ixS, go_ixD, go_slT, go_slF, go_slR, go_slS, go_revF, go_revCF, go_revAT, go_revAL, List.getElem?_cons_zero, List.getElem?_cons_succ, List.set_cons_zero, List.set_cons_succ, List.length_cons, List.length_nil, D.int.injEq, D.bl.injEq, D.str.injEq, Option.some.injEq, exists_eq_left', go_listF, go_listT, go_tupleF, go_tupleT, go_lenF, go_lenT, go_lenS, go_isiS, go_isiI, go_intI, go_intB, go_maxI, it_lst, it_tupD, it_strD, en_lst, en_tup, fr_gN, wipeD]
      refine ⟨cmulW (by omega) (by decide), by decide, by decide, trivial, ⟨ys, rfl⟩, _, _, rfl, Int.fmod_nonneg_of_pos _ (by decide), Int.fmod_lt_of_pos _ (by decide)⟩
  · rintro env M ⟨rfl, _, s, x, rfl, s0, s1⟩
    refine ⟨trivial, ?_⟩
    simp only [go_seq, go_setItem, go_bin, go_un, go_var, go_c, go_test, go_andT, go_orT, go_notT, go_yes, go_andV, go_if, go_nil, go_cons, go_tup, go_lst, go_lstC, go_cb, go_call, go_meth, go_noPart, go_part, go_sl, go_get, go_next, go_drop, go_ret, go_retN, go_ifS, go_set, go_for, go_lc, go_dc, go_iter, go_enum, go_rng, go_rng1, go_rng2, go_rng3, go_disp, go_pnil, go_pcons, go_bdT, go_bdF, go_ok, go_nx, go_rt, go_addI, go_addS, go_addT, go_addL, go_subI, go_mulI, go_mulL, go_modI, go_fdivI, go_powI, go_ltI, go_leI, go_gtI, go_geI, go_eqI, go_eqS, go_neI, go_neS, go_ixF, go_ixT, go_ixS, go_ixD, go_slT, go_slF, go_slR, go_slS, go_revF, go_revCF, go_revAT, go_revAL, List.getElem?_cons_zero, List.getElem?_cons_succ, List.set_cons_zero, List.set_cons_succ, List.length_cons, List.length_nil, D.int.injEq, D.bl.injEq, D.str.injEq, Option.some.injEq, exists_eq_left', go_listF, go_listT, go_tupleF, go_tupleT, go_lenF, go_lenT, go_lenS, go_isiS, go_isiI, go_intI, go_intB, go_maxI, it_lst, it_tupD, it_strD, en_lst, en_tup, fr_gN, wipeD]
    refine ⟨by decide, q _ ⟨xs.reverse, s, 0, ?_, by rw [List.length_reverse]; omega, s0, by omega, by decide, by decide⟩⟩
    rw [← List.map_reverse]
    rfl
theorem pick_ok {b : Nat} {T M : Mem} {xs : List Str} {Q : D → Mem → Prop} (h : DkIs b T M) (hb : b ≤ 1000000) (hx : 0 < xs.length) (hl : xs.length ≤ 1000) (q : ∀ x M', x ∈ xs → DkIs (b + 1) T M' → Q (.str x) M') : Go (f__law_pick [.ref 1, .lst (xs.map .str)] M) Q := by
  rw [f__law_pick, go_callD, show startD 2 [D.ref 1, .lst (xs.map .str)] = [some (.ref 1), some (.lst (xs.map .str))] from rfl, m__law_pick]
  simp only [go_seq, go_setItem, go_bin, go_un, go_var, go_c, go_test, go_andT, go_orT, go_notT, go_yes, go_andV, go_if, go_nil, go_cons, go_tup, go_lst, go_lstC, go_cb, go_call, go_meth, go_noPart, go_part, go_sl, go_get, go_next, go_drop, go_ret, go_retN, go_ifS, go_set, go_for, go_lc, go_dc, go_iter, go_enum, go_rng, go_rng1, go_rng2, go_rng3, go_disp, go_pnil, go_pcons, go_bdT, go_bdF, go_ok, go_nx, go_rt, go_addI, go_addS, go_addT, go_addL, go_subI, go_mulI, go_mulL, go_modI, go_fdivI, go_powI, go_ltI, go_leI, go_gtI, go_geI, go_eqI, go_eqS, go_neI, go_neS, go_ixF, go_ixT, go_ixS, go_ixD, go_slT, go_slF, go_slR, go_slS, go_revF, go_revCF, go_revAT, go_revAL, List.getElem?_cons_zero, List.getElem?_cons_succ, List.set_cons_zero, List.set_cons_succ, List.length_cons, List.length_nil, D.int.injEq, D.bl.injEq, D.str.injEq, Option.some.injEq, exists_eq_left', go_listF, go_listT, go_tupleF, go_tupleT, go_lenF, go_lenT, go_lenS, go_isiS, go_isiI, go_intI, go_intB, go_maxI, it_lst, it_tupD, it_strD, en_lst, en_tup, fr_gN, wipeD, true_and]
  refine draw_ok h hb (by rw [List.length_map]; omega) (by rw [List.length_map]; omega) fun r M1 r0 r1 h1 => ?_
  rw [List.length_map] at r1
  simp only [go_seq, go_setItem, go_bin, go_un, go_var, go_c, go_test, go_andT, go_orT, go_notT, go_yes, go_andV, go_if, go_nil, go_cons, go_tup, go_lst, go_lstC, go_cb, go_call, go_meth, go_noPart, go_part, go_sl, go_get, go_next, go_drop, go_ret, go_retN, go_ifS, go_set, go_for, go_lc, go_dc, go_iter, go_enum, go_rng, go_rng1, go_rng2, go_rng3, go_disp, go_pnil, go_pcons, go_bdT, go_bdF, go_ok, go_nx, go_rt, go_addI, go_addS, go_addT, go_addL, go_subI, go_mulI, go_mulL, go_modI, go_fdivI, go_powI, go_ltI, go_leI, go_gtI, go_geI, go_eqI, go_eqS, go_neI, go_neS, go_ixF, go_ixT, go_ixS, go_ixD, go_slT, go_slF, go_slR, go_slS, go_revF, go_revCF, go_revAT, go_revAL, List.getElem?_cons_zero, List.getElem?_cons_succ, List.set_cons_zero, List.set_cons_succ, List.length_cons, List.length_nil, D.int.injEq, D.bl.injEq, D.str.injEq, Option.some.injEq, exists_eq_left', go_listF, go_listT, go_tupleF, go_tupleT, go_lenF, go_lenT, go_lenS, go_isiS, go_isiI, go_intI, go_intB, go_maxI, it_lst, it_tupD, it_strD, en_lst, en_tup, fr_gN, wipeD]
  obtain ⟨a, ha, ha2⟩ := atI_of (xs := xs.map D.str) r0 (by rw [List.length_map]; exact r1)
  rw [List.getElem?_map] at ha
  obtain ⟨x, hx1, rfl⟩ := Option.map_eq_some_iff.mp ha
  exact ⟨_, ha2, go_fin_dk0 h h1 (frz_low rfl) fun M2 h2 => q x M2 (List.mem_of_getElem? hx1) h2⟩
def wordsL : List Str := ["free", "on", "round", "meet", "middle", "foot", "mirror", "turn", "other", "line", "line", "along", "upright", "circle", "circle", "meet", "cross"]
theorem words_ok {M : Mem} {Q : D → Mem → Prop} (q : Q (.lst (wordsL.map .str)) M) : Go (f__law_words [.bl true] M) Q := by
  rw [f__law_words, go_callD, show startD 2 [D.bl true] = [some (.bl true), none] from rfl, m__law_words]
  simp only [go_seq, go_setItem, go_bin, go_un, go_var, go_c, go_test, go_andT, go_orT, go_notT, go_yes, go_andV, go_if, go_nil, go_cons, go_tup, go_lst, go_lstC, go_cb, go_call, go_meth, go_noPart, go_part, go_sl, go_get, go_next, go_drop, go_ret, go_retN, go_ifS, go_set, go_for, go_lc, go_dc, go_iter, go_enum, go_rng, go_rng1, go_rng2, go_rng3, go_disp, go_pnil, go_pcons, go_bdT, go_bdF, go_ok, go_nx, go_rt, go_addI, go_addS, go_addT, go_addL, go_subI, go_mulI, go_mulL, go_modI, go_fdivI, go_powI, go_ltI, go_leI, go_gtI, go_geI, go_eqI, go_eqS, go_neI, go_neS, go_ixF, go_ixT, go_ixS, go_ixD, go_slT, go_slF, go_slR, go_slS, go_revF, go_revCF, go_revAT, go_revAL, List.getElem?_cons_zero, List.getElem?_cons_succ, List.set_cons_zero, List.set_cons_succ, List.length_cons, List.length_nil, D.int.injEq, D.bl.injEq, D.str.injEq, Option.some.injEq, exists_eq_left', go_listF, go_listT, go_tupleF, go_tupleT, go_lenF, go_lenT, go_lenS, go_isiS, go_isiI, go_intI, go_intB, go_maxI, it_lst, it_tupD, it_strD, en_lst, en_tup, fr_gN, wipeD]
  refine ⟨by decide, by decide, by decide, by decide, ⟨by decide, by decide, by decide⟩, by decide, ?_⟩
  exact go_fin_same (frz_low rfl) q
theorem sort_ok {M : Mem} {w : Str} {Q : D → Mem → Prop} (q : ∀ z : Str, z = "P" ∨ z = "L" ∨ z = "C" → Q (.str z) M) : Go (f__law_sort [.str w] M) Q := by
  rw [f__law_sort, go_callD, show startD 1 [D.str w] = [some (.str w)] from rfl, m__law_sort]
  simp only [go_seq, go_setItem, go_bin, go_un, go_var, go_c, go_test, go_andT, go_orT, go_notT, go_yes, go_andV, go_if, go_nil, go_cons, go_tup, go_lst, go_lstC, go_cb, go_call, go_meth, go_noPart, go_part, go_sl, go_get, go_next, go_drop, go_ret, go_retN, go_ifS, go_set, go_for, go_lc, go_dc, go_iter, go_enum, go_rng, go_rng1, go_rng2, go_rng3, go_disp, go_pnil, go_pcons, go_bdT, go_bdF, go_ok, go_nx, go_rt, go_addI, go_addS, go_addT, go_addL, go_subI, go_mulI, go_mulL, go_modI, go_fdivI, go_powI, go_ltI, go_leI, go_gtI, go_geI, go_eqI, go_eqS, go_neI, go_neS, go_ixF, go_ixT, go_ixS, go_ixD, go_slT, go_slF, go_slR, go_slS, go_revF, go_revCF, go_revAT, go_revAL, List.getElem?_cons_zero, List.getElem?_cons_succ, List.set_cons_zero, List.set_cons_succ, List.length_cons, List.length_nil, D.int.injEq, D.bl.injEq, D.str.injEq, Option.some.injEq, exists_eq_left', go_listF, go_listT, go_tupleF, go_tupleT, go_lenF, go_lenT, go_lenS, go_isiS, go_isiI, go_intI, go_intB, go_maxI, it_lst, it_tupD, it_strD, en_lst, en_tup, fr_gN, wipeD]
  split
  · exact go_fin_same (frz_low rfl) (q _ (.inr (.inr rfl)))
  · simp only [go_seq, go_setItem, go_bin, go_un, go_var, go_c, go_test, go_andT, go_orT, go_notT, go_yes, go_andV, go_if, go_nil, go_cons, go_tup, go_lst, go_lstC, go_cb, go_call, go_meth, go_noPart, go_part, go_sl, go_get, go_next, go_drop, go_ret, go_retN, go_ifS, go_set, go_for, go_lc, go_dc, go_iter, go_enum, go_rng, go_rng1, go_rng2, go_rng3, go_disp, go_pnil, go_pcons, go_bdT, go_bdF, go_ok, go_nx, go_rt, go_addI, go_addS, go_addT, go_addL, go_subI, go_mulI, go_mulL, go_modI, go_fdivI, go_powI, go_ltI, go_leI, go_gtI, go_geI, go_eqI, go_eqS, go_neI, go_neS, go_ixF, go_ixT, go_ixS, go_ixD, go_slT, go_slF, go_slR, go_slS, go_revF, go_revCF, go_revAT, go_revAL, List.getElem?_cons_zero, List.getElem?_cons_succ, List.set_cons_zero, List.set_cons_succ, List.length_cons, List.length_nil, D.int.injEq, D.bl.injEq, D.str.injEq, Option.some.injEq, exists_eq_left', go_listF, go_listT, go_tupleF, go_tupleT, go_lenF, go_lenT, go_lenS, go_isiS, go_isiI, go_intI, go_intB, go_maxI, it_lst, it_tupD, it_strD, en_lst, en_tup, fr_gN, wipeD, go_in]
    refine ⟨by decide, _, rfl, ?_⟩
    split
    · exact go_fin_same (frz_low rfl) (q _ (.inr (.inl rfl)))
    · exact go_fin_same (frz_low rfl) (q _ (.inl rfl))
def kS (x y : Str) : Key × D := (.inr x, .str y)
def formsL : List (Key × D) := [kS "free" "", kS "on" "L", kS "round" "C", kS "meet" "LL", kS "middle" "PP", kS "foot" "PL", kS "mirror" "PL", kS "turn" "PPn", kS "other" "LCP", kS "cross" "LCk", kS "line" "PP", kS "along" "PL", kS "upright" "PL", kS "circle" "PP"]
theorem forms_ok {M : Mem} {Q : D → Mem → Prop} (q : Q (.dic formsL) M) : Go (f__law_forms [] M) Q := by
  rw [f__law_forms, go_callD, show startD 1 [] = [none] from rfl, m__law_forms]
  simp only [go_seq, go_setItem, go_bin, go_un, go_var, go_c, go_test, go_andT, go_orT, go_notT, go_yes, go_andV, go_if, go_nil, go_cons, go_tup, go_lst, go_lstC, go_cb, go_call, go_meth, go_noPart, go_part, go_sl, go_get, go_next, go_drop, go_ret, go_retN, go_ifS, go_set, go_for, go_lc, go_dc, go_iter, go_enum, go_rng, go_rng1, go_rng2, go_rng3, go_disp, go_pnil, go_pcons, go_bdT, go_bdF, go_ok, go_nx, go_rt, go_addI, go_addS, go_addT, go_addL, go_subI, go_mulI, go_mulL, go_modI, go_fdivI, go_powI, go_ltI, go_leI, go_gtI, go_geI, go_eqI, go_eqS, go_neI, go_neS, go_ixF, go_ixT, go_ixS, go_ixD, go_slT, go_slF, go_slR, go_slS, go_revF, go_revCF, go_revAT, go_revAL, List.getElem?_cons_zero, List.getElem?_cons_succ, List.set_cons_zero, List.set_cons_succ, List.length_cons, List.length_nil, D.int.injEq, D.bl.injEq, D.str.injEq, Option.some.injEq, exists_eq_left', go_listF, go_listT, go_tupleF, go_tupleT, go_lenF, go_lenT, go_lenS, go_isiS, go_isiI, go_intI, go_intB, go_maxI, it_lst, it_tupD, it_strD, en_lst, en_tup, fr_gN, wipeD]
  refine ⟨_, rfl, by decide, ?_⟩
  rw [isDic_ref (at_last M _)]
  refine ⟨rfl, _, rfl, by decide, ?_⟩
  rw [go_update (at_last M _), set_last]
  refine ⟨by decide, ?_⟩
  rw [isDic_ref (at_last M _)]
  refine ⟨rfl, _, rfl, by decide, ?_⟩
  rw [go_update (at_last M _), set_last]
  refine ⟨by decide, ?_⟩
  refine go_fin_app (d' := .dic formsL) ?_ q
  have e : mergeD (mergeD (mergeD [] [kS "free" "", kS "on" "L", kS "round" "C", kS "meet" "LL", kS "middle" "PP", kS "foot" "PL", kS "mirror" "PL"]) (mergeD [] [kS "turn" "PPn", kS "other" "LCP", kS "cross" "LCk", kS "line" "PP", kS "along" "PL"])) (mergeD [] [kS "upright" "PL", kS "circle" "PP"]) = formsL := by
    rfl
  refine (frz_dic (at_last M _) ?_).trans ?_
  · exact (congrArg (lowK M.length) e).trans rfl
  · exact congrArg (fun x => some (D.dic x)) e
end Wk17

namespace Wk17
open PySem PySem.Spec PyProof.Rows L2 Ly
theorem _root_.Ly.Nm.sz' {n : Nat} {x y : Str} (h : Nm n (x ++ y)) (hn : n ≤ 100000) : szOk (x.length + y.length) = true := decide_eq_true (by
  have := h.1
  rw [show (x ++ y).cps = x.cps ++ y.cps from rfl, Array.size_append] at this
  exact Nat.le_trans this hn)
structure NamesOk (xs : List Str) : Prop where
  len : xs.length = 16
  nd : xs.Nodup
  nm : ∀ x ∈ xs, Nm 32 x
def abcS : Str := "abcdefghijklmnopqrstuvwxyz"
theorem abc_at {i : Int} (h0 : 0 ≤ i) (h1 : i < 26) : atI abcS.cps.toList i = some (97 + i.toNat) := by
  have e : abcS.cps.toList = (List.range 26).map (97 + ·) := by decide +kernel
  rw [e]
  obtain ⟨a, h2, h3⟩ := atI_of (xs := (List.range 26).map (97 + ·)) h0 (by simpa using h1)
  rw [h3]
  rw [List.getElem?_map, List.getElem?_range (by omega)] at h2
  exact h2.symm
theorem abc_ix : ∀ c : Nat, c < 26 → Txt.index0 abcS ⟨#[97 + c]⟩ = some c := by decide +kernel
def someL : List Str := ["line", "free", "at", "row", "on", "circle", "meet", "same", "holds", "a", "none", "ring"]
def footL : List Str := ["foot", "p", "turn", "cross"]
def moreL : List Str := ["qa", "qb", "qc", "qd", "qe", "qf", "qg", "qh", "qi", "qj", "qk", "ql", "qm", "qn", "qo", "qp"]
instance (n : Nat) (x : Str) : Decidable (Nm n x) := by unfold Nm; exact inferInstance
theorem way1 : ∀ n : Nat, n < 8 → NamesOk (someL.drop n ++ someL.take n ++ footL) := by
  intro n hn
  have a : ∀ n : Nat, n < 8 → (someL.drop n ++ someL.take n ++ footL).length = 16 ∧ (someL.drop n ++ someL.take n ++ footL).Nodup ∧ ∀ x ∈ someL.drop n ++ someL.take n ++ footL, Nm 32 x := by decide +kernel
  exact ⟨(a n hn).1, (a n hn).2.1, (a n hn).2.2⟩
def abcN (n k : Nat) : Str := ⟨#[97 + (n + 5 * k) % 26]⟩
theorem way0 : ∀ n : Nat, n < 8 → NamesOk ((List.range 16).map (abcN n)) := by
  intro n hn
  have a : ∀ n : Nat, n < 8 → ((List.range 16).map (abcN n)).length = 16 ∧ ((List.range 16).map (abcN n)).Nodup ∧ ∀ x ∈ (List.range 16).map (abcN n), Nm 32 x := by decide +kernel
  exact ⟨(a n hn).1, (a n hn).2.1, (a n hn).2.2⟩
/-- found names without doubles, and more of them -/
theorem way2 (fs : List Str) (h1 : fs.Nodup) (h2 : ∀ x ∈ fs, Nm 32 x) : NamesOk ((fs ++ moreL.filter fun x => !decide (x ∈ fs)).take 16) := by
  have mn : moreL.Nodup := by decide +kernel
  have mm : ∀ x ∈ moreL, Nm 32 x := by decide +kernel
  refine ⟨?_, ?_, fun x hx => ?_⟩
  · rw [List.length_take, List.length_append]
    have := fill_len moreL fs mn
    have e : moreL.length = 16 := rfl
    omega
  · refine List.Nodup.sublist (List.take_sublist _ _) (List.nodup_append.mpr ⟨h1, mn.filter _, fun x hx y hy => ?_⟩)
    have := (List.mem_filter.mp hy).2
    intro z
    subst z
    simp [hx] at this
  · rcases List.mem_append.mp (List.mem_of_mem_take hx) with z | z
    · exact h2 x z
    · exact mm x (List.mem_filter.mp z).1
theorem go_index {M : Mem} {Q : D → Mem → Prop} {x y : Str} : Go (fIndex (.str x) [.str y] M) Q = ∃ k : Nat, Txt.index0 x y = some k ∧ Q (.int k) M := by
  have e : fIndex (.str x) [.str y] M = (match Txt.index0 x y with
    | some k => .ok (.int (k : Nat)) M
    | none => .bad) := rfl
  rw [e]
  cases Txt.index0 x y <;> simp [Go]
theorem names_ok {b : Nat} {T M : Mem} {Q : D → Mem → Prop} (h : DkIs b T M) (hb : b ≤ 900000) (q : ∀ xs M', NamesOk xs → DkIs (b + 10) T M' → Q (.lst (xs.map .str)) M') : Go (f__law_names [.ref 1] M) Q := by
  rw [f__law_names, go_callD, show startD 11 [D.ref 1] = [some (.ref 1), none, none, none, none, none, none, none, none, none, none] from rfl, m__law_names]
  rw [go_seq, go_set, go_c, go_seq, go_set, go_call]
  simp only [go_cons, go_nil, go_c, go_var, List.set_cons_succ, List.set_cons_zero, List.getElem?_cons_zero]
  refine ⟨rfl, draw_ok h (by omega) (by decide) (by decide) fun way M1 w0 w1 h1 => ?_⟩
  rw [go_seq, go_set, go_call]
  simp only [go_cons, go_nil, go_c, go_var, List.set_cons_succ, List.set_cons_zero, List.getElem?_cons_zero]
  refine ⟨rfl, draw_ok h1 (by omega) (by decide) (by decide) fun at_ M2 a0 a1 h2 => ?_⟩
  rw [go_seq, go_set, go_meth]
  simp only [go_cons, go_nil, go_c, go_var, go_lc, go_rng, go_rng1, wipeD, List.set_cons_succ, List.set_cons_zero, List.getElem?_cons_zero]
  refine ⟨rfl, rngOk_of (by decide) (by decide), ?_⟩
  refine go_comp (fun rem acc M' => ∃ cs : List Nat, acc = cs.map (fun c => .str ⟨#[c]⟩) ∧ cs.length + rem.length = 8 ∧ (∀ c ∈ cs, ∃ k, k < 26 ∧ c = 97 + k) ∧ DkIs (b + 1 + 1 + cs.length) T M') ?_ ?_ _ _ _ ⟨[], rfl, rfl, nofun, h2⟩
  · rintro d rem acc M' ⟨cs, rfl, hl, hc, hd⟩
    rw [List.length_cons] at hl
    refine ⟨trivial, _, rfl, ?_⟩
    rw [go_yes, if_pos rfl]
    simp only [go_bin, go_call, go_cons, go_nil, go_c, go_var, List.set_cons_succ, List.set_cons_zero, List.getElem?_cons_zero, List.getElem?_cons_succ]
    refine ⟨rfl, draw_ok hd (by omega) (by decide) (by decide) fun r M3 r0 r1 h3 => ?_⟩
    rw [go_ixS]
    refine ⟨by decide, _, abc_at r0 r1, by rw [List.length_map]; omega, cs ++ [97 + r.toNat], by rw [List.map_append]; rfl, by rw [List.length_append, List.length_singleton]; omega, fun c hc' => ?_, ?_⟩
    · rcases List.mem_append.mp hc' with z | z
      · exact hc c z
      · exact ⟨r.toNat, by omega, by simpa using z⟩
    · rw [List.length_append, List.length_singleton]
      exact h3
  rintro acc M3 ⟨cs, rfl, hl, hc, h3⟩
  have hl : cs.length = 8 := hl
  rw [hl] at h3
  refine ⟨trivial, go_joinS (by omega) fun word hw => ?_⟩
  have nw : Nm 8 word := ⟨by rw [← Array.length_toList, hw, hl]; exact Nat.le_refl _, fun c h => by
    rw [hw] at h
    obtain ⟨k, h1, rfl⟩ := hc c h
    omega⟩
  obtain ⟨at', rfl⟩ : ∃ n : Nat, at_ = n := ⟨at_.toNat, by omega⟩
  have fin : ∀ xs : List Str, NamesOk xs → Go (finish M (.lst (xs.map .str)) M3) Q := fun xs hx =>
    go_fin_dk0 h h3 (frz_low (low_strs _ _)) fun M2 h2 => q xs M2 hx h2
  rw [go_seq, go_ifS]
  simp only [go_test, go_bin, go_var, go_c, go_eqI, List.getElem?_cons_zero, List.getElem?_cons_succ, D.bl.injEq, exists_eq_left']
  split
  · -- way 0
    rw [go_ret, go_lc]
    simp only [go_rng, go_cons, go_nil, go_c, go_rng1, wipeD, List.set_cons_succ, List.set_cons_zero]
    refine ⟨rngOk_of (by decide) (by decide), ?_⟩
    refine go_compP (fun _ => true) (fun d => match d with | .int k => .str (abcN at' k.toNat) | d => d) trivial _ (by simp) ?_ ?_
    · intro d hd
      obtain ⟨k, hk, rfl⟩ := List.mem_map.mp hd
      have hk : k < 16 := by simpa using hk
      refine ⟨_, rfl, rfl, rfl, fun _ => ?_⟩
      simp only [go_bin, go_c, go_var, List.set_cons_succ, List.set_cons_zero, List.getElem?_cons_zero, List.getElem?_cons_succ, go_mulI, go_addI, go_modI, go_ixS]
      refine ⟨cmulW (by decide) (by omega), by decide, by decide, _, abc_at (Int.fmod_nonneg_of_pos _ (by decide)) (Int.fmod_lt_of_pos _ (by decide)), ?_, trivial⟩
      have e : (((at' : Int) + 5 * (0 + (k : Int))).fmod 26).toNat = (at' + 5 * k) % 26 := by
        rw [show ((at' : Int) + 5 * (0 + (k : Int))) = ((at' + 5 * k : Nat) : Int) by omega, show (26 : Int) = ((26 : Nat) : Int) from rfl, Int.fmod_eq_emod_of_nonneg _ (by decide), ← Int.natCast_emod, Int.toNat_natCast]
      rw [e]
      show _ = D.str (abcN at' ((0 + (k : Int)).toNat))
      rw [show (0 + (k : Int)).toNat = k by omega]
      rfl
    · have e : ((((List.range (Int.toNat 16)).map fun i => D.int (0 + (i : Nat))).filter fun _ => true).map fun d => match d with | .int k => D.str (abcN at' k.toNat) | d => d) = ((List.range 16).map (abcN at')).map D.str := by
        rw [List.filter_eq_self.mpr (fun _ _ => rfl), List.map_map, List.map_map]
        refine List.map_congr_left fun k _ => ?_
        show D.str (abcN at' ((0 + (k : Int)).toNat)) = _
        rw [show (0 + (k : Int)).toNat = k by omega]
        rfl
      rw [e]
      exact fin _ (way0 at' (by omega))
  rw [go_next, go_seq, go_ifS]
  simp only [go_test, go_bin, go_var, go_c, go_eqI, List.getElem?_cons_zero, List.getElem?_cons_succ, D.bl.injEq, exists_eq_left']
  split
  · -- way 1
    simp only [go_seq, go_setItem, go_bin, go_un, go_var, go_c, go_test, go_andT, go_orT, go_notT, go_yes, go_andV, go_if, go_nil, go_cons, go_tup, go_lst, go_lstC, go_cb, go_call, go_meth, go_noPart, go_part, go_sl, go_get, go_next, go_drop, go_ret, go_retN, go_ifS, go_set, go_for, go_lc, go_dc, go_iter, go_enum, go_rng, go_rng1, go_rng2, go_rng3, go_disp, go_pnil, go_pcons, go_bdT, go_bdF, go_ok, go_nx, go_rt, go_addI, go_addS, go_addT, go_addL, go_subI, go_mulI, go_mulL, go_modI, go_fdivI, go_powI, go_ltI, go_leI, go_gtI, go_geI, go_eqI, go_eqS, go_neI, go_neS, go_ixF, go_ixT, go_ixS, go_ixD, go_slT, go_slF, go_slR, go_slS, go_revF, go_revCF, go_revAT, go_revAL, List.getElem?_cons_zero, List.getElem?_cons_succ, List.set_cons_zero, List.set_cons_succ, List.length_cons, List.length_nil, D.int.injEq, D.bl.injEq, D.str.injEq, Option.some.injEq, exists_eq_left', go_listF, go_listT, go_tupleF, go_tupleT, go_lenF, go_lenT, go_lenS, go_isiS, go_isiI, go_intI, go_intB, go_maxI, it_lst, it_tupD, it_strD, en_lst, en_tup, fr_gN, wipeD]
    refine ⟨by decide, ?_⟩
    have c1 : Ly.cutD [D.str "line", D.str "free", D.str "at", D.str "row", D.str "on", D.str "circle", D.str "meet", D.str "same", D.str "holds", D.str "a", D.str "none", D.str "ring"] (some (at' : Int)) none = (someL.drop at').map D.str := by
      rw [List.map_drop]
      exact cut_from (someL.map D.str) at'
    have c2 : Ly.cutD [D.str "line", D.str "free", D.str "at", D.str "row", D.str "on", D.str "circle", D.str "meet", D.str "same", D.str "holds", D.str "a", D.str "none", D.str "ring"] none (some (at' : Int)) = (someL.take at').map D.str := by
      rw [List.map_take]
      exact cut_to (someL.map D.str) at'
    have w := way1 at' (by omega)
    have l1 : (someL.drop at' ++ someL.take at' ++ footL).length = 16 := w.len
    have l2 : (someL.drop at').length + (someL.take at').length ≤ 16 := by
      rw [List.length_append, List.length_append] at l1
      omega
    rw [c1, c2]
    refine ⟨decide_eq_true (by rw [List.length_map, List.length_map]; omega), by decide, decide_eq_true (by rw [List.length_append, List.length_map, List.length_map]; omega), ?_⟩
    have e : (someL.drop at').map D.str ++ (someL.take at').map D.str ++ [D.str "foot", D.str "p", D.str "turn", D.str "cross"] = (someL.drop at' ++ someL.take at' ++ footL).map D.str := by
      rw [List.map_append, List.map_append]
      rfl
    rw [e]
    exact fin _ w
  rw [go_next, go_seq, go_set, go_lstC, go_nil]
  refine ⟨by decide, ?_⟩
  rw [go_seq, go_for]
  simp only [go_rng, go_cons, go_nil, go_c, go_rng1, List.set_cons_succ, List.set_cons_zero]
  refine ⟨rngOk_of (by decide) (by decide), ?_⟩
  refine go_loop (fun rem env M' => ∃ (ks : List Nat) (fs : List Str) (k lt : Option D), rem = ks.map (fun k => .int (0 + (k : Nat))) ∧ (∀ k ∈ ks, k < 16) ∧ fs.length + ks.length = 16 ∧ (∀ x ∈ fs, Nm 32 x) ∧ M' = M3 ++ [.lst (fs.map .str)] ∧
    env = [some (.ref 1), some (.str abcS), some (.int way), some (.int at'), some (.str word), some (.ref M3.length), k, none, none, lt, none]) ?_ ?_ _ _ _ ⟨List.range 16, [], none, none, rfl, by simp, rfl, nofun, rfl, rfl⟩
  · rintro d rem env M' ⟨ks, fs, k0, lt, e, hk, hn, hf, rfl, rfl⟩
    refine ⟨trivial, _, rfl, ?_⟩
    cases ks with
    | nil => cases e
    | cons k ks =>
      cases e
      have hk0 := hk k List.mem_cons_self
      have hk1 : ∀ k ∈ ks, k < 16 := fun x hx => hk x (List.mem_cons_of_mem _ hx)
      rw [List.length_cons] at hn
      simp only [List.set_cons_succ, List.set_cons_zero]
      have put : ∀ (x : Str) (lt : Option D), Nm 32 x → ∃ (ks' : List Nat) (fs' : List Str) (k' lt' : Option D), ks.map (fun k => D.int (0 + (k : Nat))) = ks'.map (fun k => D.int (0 + (k : Nat))) ∧ (∀ k ∈ ks', k < 16) ∧ fs'.length + ks'.length = 16 ∧ (∀ x ∈ fs', Nm 32 x) ∧ M3 ++ [Cell.lst (fs.map D.str ++ [D.str x])] = M3 ++ [Cell.lst (fs'.map D.str)] ∧
          ([some (.ref 1), some (.str abcS), some (.int way), some (.int at'), some (.str word), some (.ref M3.length), some (.int (0 + (k : Nat))), none, none, lt, none] : Ly.Env) = [some (.ref 1), some (.str abcS), some (.int way), some (.int at'), some (.str word), some (.ref M3.length), k', none, none, lt', none] := fun x lt hx =>
        ⟨ks, fs ++ [x], _, _, rfl, hk1, by rw [List.length_append, List.length_singleton]; omega, fun y hy => by
          rcases List.mem_append.mp hy with z | z
          · exact hf y z
          · rw [show y = x by simpa using z]
            exact hx, by rw [List.map_append]; rfl, rfl⟩
      rw [go_ifS]
      simp only [go_test, go_bin, go_var, go_c, go_eqI, List.getElem?_cons_zero, List.getElem?_cons_succ, D.bl.injEq, exists_eq_left']
      split
      · simp only [go_seq, go_setItem, go_bin, go_un, go_var, go_c, go_test, go_andT, go_orT, go_notT, go_yes, go_andV, go_if, go_nil, go_cons, go_tup, go_lst, go_lstC, go_cb, go_call, go_meth, go_noPart, go_part, go_sl, go_get, go_next, go_drop, go_ret, go_retN, go_ifS, go_set, go_for, go_lc, go_dc, go_iter, go_enum, go_rng, go_rng1, go_rng2, go_rng3, go_disp, go_pnil, go_pcons, go_bdT, go_bdF, go_ok, go_nx, go_rt, go_addI, go_addS, go_addT, go_addL, go_subI, go_mulI, go_mulL, go_modI, go_fdivI, go_powI, go_ltI, go_leI, go_gtI, go_geI, go_eqI, go_eqS, go_neI, go_neS, go_ixF, go_ixT, go_ixS, go_ixD, go_slT, go_slF, go_slR, go_slS, go_revF, go_revCF, go_revAT, go_revAL, List.getElem?_cons_zero, List.getElem?_cons_succ, List.set_cons_zero, List.set_cons_succ, List.length_cons, List.length_nil, D.int.injEq, D.bl.injEq, D.str.injEq, Option.some.injEq, exists_eq_left', go_listF, go_listT, go_tupleF, go_tupleT, go_lenF, go_lenT, go_lenS, go_isiS, go_isiI, go_intI, go_intB, go_maxI, it_lst, it_tupD, it_strD, en_lst, en_tup, fr_gN, wipeD, isLst_ref (at_last M3 _), go_append (at_last M3 _), set_last, true_and]
        have n2 := nw.cut none (some ((0 + (k : Int)).fmod 8))
        refine ⟨by decide, nw.sz (by decide), by decide, nw.sz (by decide), decide_eq_true ?_, by decide, ⟨by decide, by decide⟩, ?_⟩
        · have : (cutS word none (some ((0 + (k : Int)).fmod 8))).length ≤ 8 := n2.1
          have : Str.length "z" = 1 := rfl
          omega
        have hd : (0 + (k : Int)).fdiv 8 = 0 ∨ (0 + (k : Int)).fdiv 8 = 1 := by
          rw [Int.fdiv_eq_ediv_of_nonneg _ (by decide)]
          omega
        rcases hd with e | e <;> rw [e]
        · exact ⟨_, rfl, by rw [List.length_map]; omega, put _ _ ((nw.cut _ _).mono (by decide))⟩
        · exact ⟨_, rfl, by rw [List.length_map]; omega, put _ _ ((Nm.app (n := 1) (by decide +kernel) n2).mono (by decide))⟩
      · obtain ⟨c, hc1⟩ : ∃ c, cs[at']? = some c := ⟨_, List.getElem?_eq_getElem (by omega)⟩
        obtain ⟨j, hj, rfl⟩ := hc c (List.mem_of_getElem? hc1)
        have ea : atI word.cps.toList (at' : Int) = some (97 + j) := Ly.atI_nat (by rw [hw]; exact hc1)
        simp only [go_seq, go_setItem, go_bin, go_un, go_var, go_c, go_test, go_andT, go_orT, go_notT, go_yes, go_andV, go_if, go_nil, go_cons, go_tup, go_lst, go_lstC, go_cb, go_call, go_meth, go_noPart, go_part, go_sl, go_get, go_next, go_drop, go_ret, go_retN, go_ifS, go_set, go_for, go_lc, go_dc, go_iter, go_enum, go_rng, go_rng1, go_rng2, go_rng3, go_disp, go_pnil, go_pcons, go_bdT, go_bdF, go_ok, go_nx, go_rt, go_addI, go_addS, go_addT, go_addL, go_subI, go_mulI, go_mulL, go_modI, go_fdivI, go_powI, go_ltI, go_leI, go_gtI, go_geI, go_eqI, go_eqS, go_neI, go_neS, go_ixF, go_ixT, go_ixS, go_ixD, go_slT, go_slF, go_slR, go_slS, go_revF, go_revCF, go_revAT, go_revAL, List.getElem?_cons_zero, List.getElem?_cons_succ, List.set_cons_zero, List.set_cons_succ, List.length_cons, List.length_nil, D.int.injEq, D.bl.injEq, D.str.injEq, Option.some.injEq, exists_eq_left', go_listF, go_listT, go_tupleF, go_tupleT, go_lenF, go_lenT, go_lenS, go_isiS, go_isiI, go_intI, go_intB, go_maxI, it_lst, it_tupD, it_strD, en_lst, en_tup, fr_gN, wipeD, ea, go_index, show Txt.index0 abcS ⟨#[97 + j]⟩ = some j from abc_ix j hj, show isStr (.str abcS) (M3 ++ [Cell.lst (fs.map D.str)]) = true from rfl, true_and]
        have f0 : 0 ≤ ((j : Int) + (0 + (k : Int))).fmod 26 := Int.fmod_nonneg_of_pos _ (by decide)
        have f1 : ((j : Int) + (0 + (k : Int))).fmod 26 < 26 := Int.fmod_lt_of_pos _ (by decide)
        simp only [abc_at f0 f1, go_seq, go_setItem, go_bin, go_un, go_var, go_c, go_test, go_andT, go_orT, go_notT, go_yes, go_andV, go_if, go_nil, go_cons, go_tup, go_lst, go_lstC, go_cb, go_call, go_meth, go_noPart, go_part, go_sl, go_get, go_next, go_drop, go_ret, go_retN, go_ifS, go_set, go_for, go_lc, go_dc, go_iter, go_enum, go_rng, go_rng1, go_rng2, go_rng3, go_disp, go_pnil, go_pcons, go_bdT, go_bdF, go_ok, go_nx, go_rt, go_addI, go_addS, go_addT, go_addL, go_subI, go_mulI, go_mulL, go_modI, go_fdivI, go_powI, go_ltI, go_leI, go_gtI, go_geI, go_eqI, go_eqS, go_neI, go_neS, go_ixF, go_ixT, go_ixS, go_ixD, go_slT, go_slF, go_slR, go_slS, go_revF, go_revCF, go_revAT, go_revAL, List.getElem?_cons_zero, List.getElem?_cons_succ, List.set_cons_zero, List.set_cons_succ, List.length_cons, List.length_nil, D.int.injEq, D.bl.injEq, D.str.injEq, Option.some.injEq, exists_eq_left', go_listF, go_listT, go_tupleF, go_tupleT, go_lenF, go_lenT, go_lenS, go_isiS, go_isiI, go_intI, go_intB, go_maxI, it_lst, it_tupD, it_strD, en_lst, en_tup, fr_gN, wipeD, isLst_ref (at_last M3 _), go_append (at_last M3 _), set_last, true_and]
        have g1 := nw.cut none (some (at' : Int))
        have g2 : Nm 1 ⟨#[97 + (((j : Int) + (0 + (k : Int))).fmod 26).toNat]⟩ := Nm.one (by omega)
        have g3 := nw.cut (some ((at' : Int) + 1)) none
        have g4 := (g1.app g2).app g3
        refine ⟨nw.sz (by decide), by decide, by decide +kernel, nw.sz (by decide), (g1.app g2).sz' (by decide), nw.sz (by decide), g4.sz' (by decide), by rw [List.length_map]; omega, ?_⟩
        exact put _ _ (g4.mono (by decide))
  · rintro env M' ⟨ks, fs, k0, lt, e, hk, hn, hf, rfl, rfl⟩
    refine ⟨trivial, ?_⟩
    have fin2 : ∀ xs : List Str, NamesOk xs → Go (finish M (.lst (xs.map .str)) (M3 ++ [.lst (fs.map .str)])) Q := fun xs hx =>
      go_fin_dk h (h3.push _) (frz_low (low_strs _ _)) fun M2 h2 => q xs M2 hx h2
    rw [go_seq, go_set, go_lc, go_enum, go_var]
    simp only [List.getElem?_cons_zero, List.getElem?_cons_succ]
    have en : enumOf (.ref M3.length) (M3 ++ [.lst (fs.map .str)]) = some ⟨numbered (fs.map .str), fun M' => M'[M3.length]? = some (.lst (fs.map .str))⟩ := by
      simp only [enumOf, itemsOf, at_last]
      rfl
    refine ⟨_, en, ?_⟩
    simp only [wipeD, List.set_cons_succ, List.set_cons_zero]
    refine go_comp (fun rem acc M' => M' = M3 ++ [.lst (fs.map .str)] ∧ ∃ (k : Nat) (gs : List Str), rem = (numbered (fs.map .str)).drop k ∧ acc = gs.map .str ∧ gs.Nodup ∧ gs.length ≤ k ∧ k + rem.length = fs.length ∧ ∀ y ∈ gs, y ∈ fs.take k) ?_ ?_ _ _ _ ⟨rfl, 0, [], rfl, rfl, .nil, Nat.le_refl _, by rw [numbered_len, List.length_map]; omega, nofun⟩
    · rintro d rem acc M' ⟨rfl, k, gs, e1, rfl, nd, gl, kl, sub⟩
      rw [List.length_cons] at kl
      have hd : (numbered (fs.map D.str))[k]? = some d := by
        have : ((numbered (fs.map D.str)).drop k)[0]? = some d := by rw [← e1]; rfl
        rw [List.getElem?_drop] at this
        exact this
      obtain ⟨x', hx', rfl⟩ := numbered_at hd
      rw [List.getElem?_map] at hx'
      obtain ⟨x, hx, rfl⟩ := Option.map_eq_some_iff.mp hx'
      have e2 : rem = (numbered (fs.map D.str)).drop (k + 1) := by
        rw [← List.drop_drop, ← e1]
        rfl
      have tk : ∀ y, y ∈ fs.take k → y ∈ fs.take (k + 1) := fun y hy => by
        have : (fs.take (k + 1)).take k = fs.take k := by rw [List.take_take, Nat.min_eq_left (by omega)]
        rw [← this] at hy
        exact List.mem_of_mem_take hy
      refine ⟨at_last _ _, _, rfl, ?_⟩
      simp only [go_test, go_bin, go_var, go_sl, go_noPart, go_part, List.set_cons_succ, List.set_cons_zero, List.getElem?_cons_zero, List.getElem?_cons_succ, go_slC (at_last M3 _), D.int.injEq, exists_eq_left', go_notIn, cut_to, ← List.map_take, in_lst, Option.some.injEq, D.bl.injEq]
      split
      · next hb1 =>
        have hb1 : x ∉ fs.take k := by simpa using hb1
        refine ⟨by rw [List.length_map]; omega, trivial, k + 1, gs ++ [x], e2, by rw [List.map_append]; rfl, ?_, by rw [List.length_append, List.length_singleton]; omega, by omega, fun y hy => ?_⟩
        · rw [List.nodup_append]
          exact ⟨nd, by simp, fun y hy z hz => by
            rw [show z = x by simpa using hz]
            exact fun e => hb1 (e ▸ sub y hy)⟩
        · rcases List.mem_append.mp hy with z | z
          · exact tk y (sub y z)
          · rw [show y = x by simpa using z, List.mem_iff_getElem?]
            exact ⟨k, by rw [List.getElem?_take_of_lt (by omega)]; exact hx⟩
      · exact ⟨trivial, k + 1, gs, e2, rfl, nd, by omega, by omega, fun y hy => tk y (sub y hy)⟩
    rintro acc M' ⟨rfl, k, gs, e1, rfl, nd, gl, kl, sub⟩
    refine ⟨at_last _ _, ?_⟩
    have gl2 : gs.length ≤ 16 := by
      rw [List.length_nil] at kl
      omega
    have gn : ∀ x ∈ gs, Nm 32 x := fun x hx => hf x (List.mem_of_mem_take (sub x hx))
    simp only [go_seq, go_setItem, go_bin, go_un, go_var, go_c, go_test, go_andT, go_orT, go_notT, go_yes, go_andV, go_if, go_nil, go_cons, go_tup, go_lst, go_lstC, go_cb, go_call, go_meth, go_noPart, go_part, go_sl, go_get, go_next, go_drop, go_ret, go_retN, go_ifS, go_set, go_for, go_lc, go_dc, go_iter, go_enum, go_rng, go_rng1, go_rng2, go_rng3, go_disp, go_pnil, go_pcons, go_bdT, go_bdF, go_ok, go_nx, go_rt, go_addI, go_addS, go_addT, go_addL, go_subI, go_mulI, go_mulL, go_modI, go_fdivI, go_powI, go_ltI, go_leI, go_gtI, go_geI, go_eqI, go_eqS, go_neI, go_neS, go_ixF, go_ixT, go_ixS, go_ixD, go_slT, go_slF, go_slR, go_slS, go_revF, go_revCF, go_revAT, go_revAL, List.getElem?_cons_zero, List.getElem?_cons_succ, List.set_cons_zero, List.set_cons_succ, List.length_cons, List.length_nil, D.int.injEq, D.bl.injEq, D.str.injEq, Option.some.injEq, exists_eq_left', go_listF, go_listT, go_tupleF, go_tupleT, go_lenF, go_lenT, go_lenS, go_isiS, go_isiI, go_intI, go_intB, go_maxI, it_lst, it_tupD, it_strD, en_lst, en_tup, fr_gN, wipeD]
    refine ⟨by decide, ?_⟩
    refine go_compP (fun d => match d with | .str x => !decide (x ∈ gs) | _ => false) id trivial _ (by decide) ?_ ?_
    · intro d hd
      obtain ⟨x, hx, rfl⟩ := List.mem_map.mp (show d ∈ moreL.map D.str from hd)
      refine ⟨_, rfl, ?_⟩
      simp only [go_seq, go_setItem, go_bin, go_un, go_var, go_c, go_test, go_andT, go_orT, go_notT, go_yes, go_andV, go_if, go_nil, go_cons, go_tup, go_lst, go_lstC, go_cb, go_call, go_meth, go_noPart, go_part, go_sl, go_get, go_next, go_drop, go_ret, go_retN, go_ifS, go_set, go_for, go_lc, go_dc, go_iter, go_enum, go_rng, go_rng1, go_rng2, go_rng3, go_disp, go_pnil, go_pcons, go_bdT, go_bdF, go_ok, go_nx, go_rt, go_addI, go_addS, go_addT, go_addL, go_subI, go_mulI, go_mulL, go_modI, go_fdivI, go_powI, go_ltI, go_leI, go_gtI, go_geI, go_eqI, go_eqS, go_neI, go_neS, go_ixF, go_ixT, go_ixS, go_ixD, go_slT, go_slF, go_slR, go_slS, go_revF, go_revCF, go_revAT, go_revAL, List.getElem?_cons_zero, List.getElem?_cons_succ, List.set_cons_zero, List.set_cons_succ, List.length_cons, List.length_nil, D.int.injEq, D.bl.injEq, D.str.injEq, Option.some.injEq, exists_eq_left', go_listF, go_listT, go_tupleF, go_tupleT, go_lenF, go_lenT, go_lenS, go_isiS, go_isiI, go_intI, go_intB, go_maxI, it_lst, it_tupD, it_strD, en_lst, en_tup, fr_gN, wipeD, go_notIn, in_lst]
      exact ⟨trivial, trivial, fun _ => ⟨rfl, trivial⟩⟩
    · have e : (([D.str "qa", D.str "qb", D.str "qc", D.str "qd", D.str "qe", D.str "qf", D.str "qg", D.str "qh", D.str "qi", D.str "qj", D.str "qk", D.str "ql", D.str "qm", D.str "qn", D.str "qo", D.str "qp"].filter fun d => match d with | .str x => !decide (x ∈ gs) | _ => false).map id) = (moreL.filter fun x => !decide (x ∈ gs)).map D.str := by
        rw [List.map_id, show ([D.str "qa", D.str "qb", D.str "qc", D.str "qd", D.str "qe", D.str "qf", D.str "qg", D.str "qh", D.str "qi", D.str "qj", D.str "qk", D.str "ql", D.str "qm", D.str "qn", D.str "qo", D.str "qp"] : List D) = moreL.map D.str from rfl, List.filter_map]
        rfl
      rw [e]
      have ml : (moreL.filter fun x => !decide (x ∈ gs)).length ≤ 16 := List.length_filter_le _ moreL
      refine ⟨decide_eq_true (by rw [List.length_map, List.length_map]; omega), ?_⟩
      rw [show (16 : Int) = ((16 : Nat) : Int) from rfl, cut_to, ← List.map_append, ← List.map_take]
      exact fin2 _ (way2 gs nd gn)
end Wk17

namespace Wk17
open PySem PySem.Spec PyProof.Rows L2 Ly
/-! ### steps -/
inductive O where
  | s (x : Str) | i (k : Int)
def od : O → D
  | .s x => .str x
  | .i k => .int k
structure Stp where
  w : Str
  n : Str
  os : List O
def stD (s : Stp) : D := .tup (.str s.w :: .str s.n :: s.os.map od)
structure StepOk (before : List Str) (s : Stp) : Prop where
  nm : Nm 32 s.n
  wm : Nm 32 s.w
  len : s.os.length ≤ 3
  str : ∀ x, .s x ∈ s.os → x ∈ before
  int : ∀ k, .i k ∈ s.os → 0 ≤ k ∧ k ≤ 10
  cir : s.w = "circle" → ∃ p q, s.os = [.s p, .s q]
def SkOk (ss : List Stp) : Prop := ∀ pre s post, ss = pre ++ s :: post → StepOk (pre.map (·.n)) s
theorem StepOk.mono {b b' : List Str} {s : Stp} (h : StepOk b s) (hs : ∀ x ∈ b, x ∈ b') : StepOk b' s := ⟨h.nm, h.wm, h.len, fun x hx => hs x (h.str x hx), h.int, h.cir⟩
theorem SkOk.mem {ss : List Stp} (h : SkOk ss) {s : Stp} (hs : s ∈ ss) : StepOk (ss.map (·.n)) s := by
  obtain ⟨pre, post, e⟩ := List.append_of_mem hs
  refine (h pre s post e).mono fun x hx => ?_
  rw [e, List.map_append]
  exact List.mem_append_left _ hx
theorem SkOk.snoc {ss : List Stp} {s : Stp} (h : SkOk ss) (hs : StepOk (ss.map (·.n)) s) : SkOk (ss ++ [s]) := by
  intro pre t post e
  rcases List.eq_nil_or_concat post with rfl | ⟨post', u, e'⟩
  · have := List.append_inj' e rfl
    obtain ⟨e1, e2⟩ := this
    cases e2
    rw [← e1]
    exact hs
  · rw [List.concat_eq_append] at e'
    subst e'
    have e3 : ss ++ [s] = (pre ++ t :: post') ++ [u] := by
      rw [e]
      simp
    exact h pre t post' (List.append_inj' e3 rfl).1
theorem SkOk.take {ss : List Stp} (h : SkOk ss) (k : Nat) : SkOk (ss.take k) := by
  intro pre s post e
  refine h pre s (post ++ ss.drop k) ?_
  have t := List.take_append_drop k ss
  rw [e] at t
  exact t.symm.trans (by simp)
theorem at_0 {α : Type} {x : α} {xs : List α} : atI (x :: xs) 0 = some x := Ly.atI_nat (n := 0) rfl
theorem at_1 {α : Type} {x y : α} {xs : List α} : atI (x :: y :: xs) 1 = some y := Ly.atI_nat (n := 1) rfl
theorem at_3 {α : Type} {x y z t : α} {xs : List α} : atI (x :: y :: z :: t :: xs) 3 = some t := Ly.atI_nat (n := 3) rfl
theorem flat_od (os : List O) : (os.map od).all flatD = true := by
  rw [List.all_eq_true]
  intro d hd
  obtain ⟨o, _, rfl⟩ := List.mem_map.mp hd
  cases o <;> rfl
theorem in_od {M : Mem} {x : Str} {os : List O} : ∃ b, inM M (.str x) (.tup (os.map od)) = some b := by
  refine ⟨inD (.str x) (os.map od), ?_⟩
  show (if flatD (.str x) && (os.map od).all flatD then some (inD (.str x) (os.map od)) else none) = _
  rw [flat_od]
  rfl
theorem low_od (k : Nat) : ∀ os : List O, lowL k (os.map od) = true
  | [] => rfl
  | o :: os => by
    have : lowL k (os.map od) = true := low_od k os
    cases o
    · show (true && lowL k (os.map od)) = true
      rw [this]
      rfl
    · show (true && lowL k (os.map od)) = true
      rw [this]
      rfl
theorem low_st (k : Nat) (s : Stp) : (stD s).low k = true := by
  show (true && (true && lowL k (s.os.map od))) = true
  rw [low_od]
  rfl
/-- a slice from the third on is a beginning of the others -/
theorem cut_os (s : Stp) (hi : Option Int) : ∃ k, Ly.cutD (.str s.w :: .str s.n :: s.os.map od) (some 2) hi = (s.os.take k).map od := by
  refine ⟨HT.sIx (D.str s.w :: D.str s.n :: s.os.map od).length (D.str s.w :: D.str s.n :: s.os.map od).length hi - 2, ?_⟩
  have e : HT.sIx (D.str s.w :: D.str s.n :: s.os.map od).length 0 (some 2) = 2 := by
    rw [show (2 : Int) = ((2 : Nat) : Int) from rfl, HT.sIx_nat, List.length_cons, List.length_cons]
    omega
  unfold Ly.cutD
  rw [e, List.map_take]
  rfl
theorem get3 (M : Mem) (w : Str) (a b c : D) (P : D → Prop) (ha : P a) (hb : P b) (hc : P c) (hz : P (.tup [])) {Q : D → Mem → Prop} (q : ∀ d, P d → Q d M) : Go (opGet (.dic (mergeD [] [(.inr "line", a), (.inr "along", b), (.inr "upright", c)])) (.str w) (.tup []) M) Q := by
  have e : mergeD [] [((.inr "line" : Key), a), (.inr "along", b), (.inr "upright", c)] = [(.inr "line", a), (.inr "along", b), (.inr "upright", c)] := rfl
  rw [e]
  show Q ((valD [(.inr "line", a), (.inr "along", b), (.inr "upright", c)] (.inr w)).getD (.tup [])) M
  refine q _ ?_
  unfold valD
  by_cases h1 : (.inr "line" : Key) = .inr w
  · rw [List.find?_cons_of_pos (by simpa using h1)]
    exact ha
  · rw [List.find?_cons_of_neg (by simpa using h1)]
    by_cases h2 : (.inr "along" : Key) = .inr w
    · rw [List.find?_cons_of_pos (by simpa using h2)]
      exact hb
    · rw [List.find?_cons_of_neg (by simpa using h2)]
      by_cases h3 : (.inr "upright" : Key) = .inr w
      · rw [List.find?_cons_of_pos (by simpa using h3)]
        exact hc
      · rw [List.find?_cons_of_neg (by simpa using h3)]
        exact hz
def tD3 (t : Str × Str × Str) : D := .tup [.str t.1, .str t.2.1, .str t.2.2]
theorem others_ok {M : Mem} {n : Nat} {ss : List Stp} {Q : D → Mem → Prop} (hM : M[n]? = some (.lst (ss.map stD))) (hs : SkOk ss) (hl : ss.length ≤ 20)
    (q : ∀ ts : List (Str × Str × Str), (∀ t ∈ ts, t.1 ∈ ss.map (·.n) ∧ t.2.1 ∈ ss.map (·.n) ∧ t.2.2 ∈ ss.map (·.n)) → ts.length ≤ 400 → Q (.lst (ts.map tD3)) M) : Go (f__law_others [.ref n] M) Q := by
  have hn : n < M.length := (List.getElem?_eq_some_iff.mp hM).1
  have hM' : ∀ c : Cell, (M ++ [c])[n]? = some (.lst (ss.map stD)) := fun c => by rw [List.getElem?_append_left hn]; exact hM
  have it : ∀ c : Cell, itemsOf (.ref n) (M ++ [c]) = some ⟨ss.map stD, fun M' => M'[n]? = some (.lst (ss.map stD))⟩ := fun c => by
    simp only [itemsOf, hM' c]
  rw [f__law_others, go_callD, show startD 5 [D.ref n] = [some (.ref n), none, none, none, none] from rfl, m__law_others]
  rw [go_seq, go_set, go_lstC, go_nil]
  refine ⟨by decide, ?_⟩
  rw [go_seq, go_for, go_iter, go_var]
  simp only [List.getElem?_cons_zero, List.set_cons_succ, List.set_cons_zero]
  refine ⟨_, it _, ?_⟩
  refine go_loop (fun rem env M' => ∃ (post : List Stp) (ts : List (Str × Str × Str)) (c l th : Option D), rem = post.map stD ∧ (∀ s ∈ post, s ∈ ss) ∧ M' = M ++ [.lst (ts.map tD3)] ∧ env = [some (.ref n), some (.ref M.length), c, l, th] ∧ (∀ t ∈ ts, t.1 ∈ ss.map (·.n) ∧ t.2.1 ∈ ss.map (·.n) ∧ t.2.2 ∈ ss.map (·.n)) ∧ ts.length + 20 * post.length ≤ 400)
    ?_ ?_ _ _ _ ⟨ss, [], none, none, none, rfl, fun _ h => h, rfl, rfl, nofun, by rw [List.length_nil]; omega⟩
  · rintro d rem env M' ⟨post, ts, c, l, th, e, hp, rfl, rfl, ht, hn2⟩
    refine ⟨hM' _, _, rfl, ?_⟩
    cases post with
    | nil => cases e
    | cons s post =>
      cases e
      have hs1 := hp s List.mem_cons_self
      have hp1 : ∀ s ∈ post, s ∈ ss := fun x hx => hp x (List.mem_cons_of_mem _ hx)
      rw [List.length_cons] at hn2
      simp only [List.set_cons_succ, List.set_cons_zero]
      rw [go_ifS]
      simp only [go_test, go_bin, go_var, go_c, List.getElem?_cons_zero, List.getElem?_cons_succ, stD, go_ixT, at_0, Option.some.injEq, exists_eq_left', go_eqS, D.bl.injEq]
      split
      · next ew =>
        have ew : s.w = "circle" := of_decide_eq_true ew
        obtain ⟨p, p2, eo⟩ := (hs.mem hs1).cir ew
        have sx := (hs.mem hs1).str p2 (by rw [eo]; simp)
        rw [go_for, go_iter, go_var]
        simp only [List.getElem?_cons_zero]
        refine ⟨_, it _, ?_⟩
        refine go_loop (fun rem env M' => ∃ (po : List Stp) (ts : List (Str × Str × Str)) (l th : Option D), rem = po.map stD ∧ (∀ s ∈ po, s ∈ ss) ∧ M' = M ++ [.lst (ts.map tD3)] ∧ env = [some (.ref n), some (.ref M.length), some (.tup (.str s.w :: .str s.n :: s.os.map od)), l, th] ∧ (∀ t ∈ ts, t.1 ∈ ss.map (·.n) ∧ t.2.1 ∈ ss.map (·.n) ∧ t.2.2 ∈ ss.map (·.n)) ∧ ts.length + po.length + 20 * post.length ≤ 400)
          ?_ ?_ _ _ _ ⟨ss, ts, l, th, rfl, fun _ h => h, rfl, rfl, ht, by omega⟩
        · rintro d rem env M' ⟨po, ts, l, th, e, hp, rfl, rfl, ht, hn2⟩
          refine ⟨hM' _, _, rfl, ?_⟩
          cases po with
          | nil => cases e
          | cons s' po =>
            cases e
            have hs2 := hp s' List.mem_cons_self
            have hp2 : ∀ s ∈ po, s ∈ ss := fun x hx => hp x (List.mem_cons_of_mem _ hx)
            rw [List.length_cons] at hn2
            simp only [List.set_cons_succ, List.set_cons_zero]
            obtain ⟨k1, c1⟩ := cut_os s' none
            obtain ⟨k2, c2⟩ := cut_os s' (some 3)
            simp only [go_seq, go_setItem, go_bin, go_un, go_var, go_c, go_test, go_andT, go_orT, go_notT, go_yes, go_andV, go_if, go_nil, go_cons, go_tup, go_lst, go_lstC, go_cb, go_call, go_meth, go_noPart, go_part, go_sl, go_get, go_next, go_drop, go_ret, go_retN, go_ifS, go_set, go_for, go_lc, go_dc, go_iter, go_enum, go_rng, go_rng1, go_rng2, go_rng3, go_disp, go_pnil, go_pcons, go_bdT, go_bdF, go_ok, go_nx, go_rt, go_addI, go_addS, go_addT, go_addL, go_subI, go_mulI, go_mulL, go_modI, go_fdivI, go_powI, go_ltI, go_leI, go_gtI, go_geI, go_eqI, go_eqS, go_neI, go_neS, go_ixF, go_ixT, go_ixS, go_ixD, go_slT, go_slF, go_slR, go_slS, go_revF, go_revCF, go_revAT, go_revAL, List.getElem?_cons_zero, List.getElem?_cons_succ, List.set_cons_zero, List.set_cons_succ, List.length_cons, List.length_nil, D.int.injEq, D.bl.injEq, D.str.injEq, Option.some.injEq, exists_eq_left', go_listF, go_listT, go_tupleF, go_tupleT, go_lenF, go_lenT, go_lenS, go_isiS, go_isiI, go_intI, go_intB, go_maxI, it_lst, it_tupD, it_strD, en_lst, en_tup, fr_gN, wipeD, stD, at_0, at_1, c1, c2, isDic_dic, true_and]
            refine ⟨_, rfl, by show 3 ≤ 15; decide, by decide, ?_⟩
            refine get3 _ _ _ _ _ (fun d => ∃ os : List O, d = .tup (os.map od)) ⟨_, rfl⟩ ⟨_, rfl⟩ ⟨_, rfl⟩ ⟨[], rfl⟩ ?_
            rintro d ⟨os, rfl⟩
            obtain ⟨bb, hbb⟩ := in_od (M := M ++ [.lst (ts.map tD3)]) (x := p2) (os := os)
            have a3 : atI (D.str s.w :: D.str s.n :: s.os.map od) 3 = some (.str p2) := by
              rw [eo]
              exact at_3
            simp only [a3, Option.some.injEq, exists_eq_left', go_in, hbb, D.bl.injEq]
            have sn : s.n ∈ ss.map (·.n) := List.mem_map.mpr ⟨s, hs1, rfl⟩
            have sn' : s'.n ∈ ss.map (·.n) := List.mem_map.mpr ⟨s', hs2, rfl⟩
            split
            · rw [isLst_ref (at_last M _), go_append (at_last M _), set_last]
              refine ⟨rfl, by decide, by rw [List.length_map]; omega, po, ts ++ [(s'.n, s.n, p2)], _, _, rfl, hp2, by rw [List.map_append]; rfl, rfl, fun t ht' => ?_, by rw [List.length_append, List.length_singleton]; omega⟩
              rcases List.mem_append.mp ht' with z | z
              · exact ht t z
              · rw [show t = (s'.n, s.n, p2) by simpa using z]
                exact ⟨sn', sn, sx⟩
            · exact ⟨po, ts, _, _, rfl, hp2, rfl, rfl, ht, by omega⟩
        · rintro env M' ⟨po, ts, l, th, e, hp, rfl, rfl, ht, hn2⟩
          exact ⟨hM' _, post, ts, _, l, th, rfl, hp1, rfl, rfl, ht, by omega⟩
      · rw [go_next]
        exact ⟨post, ts, _, _, _, rfl, hp1, rfl, rfl, ht, by omega⟩
  · rintro env M' ⟨post, ts, c, l, th, e, hp, rfl, rfl, ht, hn2⟩
    refine ⟨hM' _, ?_⟩
    simp only [go_ret, go_var, List.getElem?_cons_zero, List.getElem?_cons_succ]
    refine go_fin_app (frz_lst (at_last M _) ?_) (q ts ht (by omega))
    have lw : ∀ l : List (Str × Str × Str), lowL M.length (l.map tD3) = true := by
      intro l
      induction l with
      | nil => rfl
      | cons t l ih =>
        show (true && lowL M.length (l.map tD3)) = true
        rw [ih]
        rfl
    exact lw ts
end Wk17

namespace Wk17
open PySem PySem.Spec PyProof.Rows L2 Ly
def cellsU (U : List (List Str)) : Mem := U.map fun l => Cell.lst (l.map D.str)
def leftK (t : Nat) : List (Key × D) := [(.inr "P", .ref (t + 0 + 2)), (.inr "L", .ref (t + 1 + 2)), (.inr "C", .ref (t + 2 + 2))]
theorem left_at {t : Nat} {z : Str} (h : z = "P" ∨ z = "L" ∨ z = "C") : ∃ i, i < 3 ∧ (keyOf (.str z)).bind (valD (leftK t)) = some (.ref (t + i + 2)) := by
  rcases h with rfl | rfl | rfl
  · exact ⟨0, by decide, rfl⟩
  · exact ⟨1, by decide, rfl⟩
  · exact ⟨2, by decide, rfl⟩
structure Lf (b : Nat) (T : Mem) (ns : List Str) (U : List (List Str)) (M : Mem) : Prop where
  dk : DkIs b (T ++ cellsU U) M
  len : U.length = 3
  sm : ∀ l ∈ U, l.length ≤ 100
  mem : ∀ l ∈ U, ∀ x ∈ l, x ∈ ns
theorem Lf.at_ {b : Nat} {T M : Mem} {ns : List Str} {U : List (List Str)} (h : Lf b T ns U M) {i : Nat} (hi : i < 3) : ∃ l, U[i]? = some l ∧ l ∈ U ∧ M[T.length + i + 2]? = some (.lst (l.map .str)) := by
  have hl : i < U.length := by rw [h.len]; exact hi
  refine ⟨U[i], List.getElem?_eq_getElem hl, List.getElem_mem hl, ?_⟩
  rw [h.dk.new]
  unfold cellsU
  rw [List.getElem?_map, List.getElem?_eq_getElem hl]
  rfl
theorem Lf.put {b : Nat} {T M : Mem} {ns : List Str} {U : List (List Str)} (h : Lf b T ns U M) {i : Nat} {l : List Str} {ds : List D} (hd : ds = l.map .str) (hl : l.length ≤ 100) (hm : ∀ x ∈ l, x ∈ ns) : Lf b T ns (U.set i l) (M.set (T.length + i + 2) (.lst ds)) := by
  refine ⟨?_, by rw [List.length_set, h.len], fun k hk => ?_, fun k hk => ?_⟩
  · have := h.dk.put i (.lst ds)
    rw [hd] at this ⊢
    unfold cellsU at this ⊢
    rw [List.map_set]
    exact this
  · rcases List.mem_or_eq_of_mem_set hk with z | z
    · exact h.sm k z
    · rw [z]
      exact hl
  · rcases List.mem_or_eq_of_mem_set hk with z | z
    · exact h.mem k z
    · rw [z]
      exact hm
theorem SkOk.nms {ss : List Stp} (h : SkOk ss) : ∀ x ∈ ss.map (·.n), Nm 32 x := fun x hx => by
  obtain ⟨s, hs, rfl⟩ := List.mem_map.mp hx
  exact (h.mem hs).nm
theorem words_nm : ∀ w ∈ wordsL, Nm 32 w := by decide +kernel
/-- what a word wants -/
theorem forms_at : ∀ w ∈ wordsL, ∃ z : Str, (keyOf (.str w)).bind (valD formsL) = some (.str z) ∧ z.cps.toList.length ≤ 3 ∧ (∀ c ∈ z.cps.toList, c = 80 ∨ c = 76 ∨ c = 67 ∨ c = 110 ∨ c = 107) ∧ (w = "circle" → z.cps.toList = [80, 80]) := by
  intro w hw
  have key : ∀ w ∈ wordsL, (match (keyOf (.str w)).bind (valD formsL) with
    | some (.str z) => decide (z.cps.toList.length ≤ 3) && (z.cps.toList.all fun c => c == 80 || c == 76 || c == 67 || c == 110 || c == 107) && (!decide (w = "circle") || z.cps.toList == [80, 80])
    | _ => false) = true := by decide +kernel
  have k := key w hw
  split at k
  · next z e =>
    refine ⟨z, e, of_decide_eq_true (and_l (and_l k)), fun c hc => ?_, fun e => ?_⟩
    · have := List.all_eq_true.mp (and_r (and_l k)) c hc
      simpa [or_assoc] using this
    · have := and_r k
      rw [decide_eq_true e] at this
      simpa using this
  · exact nomatch k
theorem erase_map {α β : Type} (f : α → β) : ∀ (l : List α) (i : Nat), (l.map f).eraseIdx i = (l.eraseIdx i).map f
  | [], _ => rfl
  | _ :: _, 0 => rfl
  | a :: l, i + 1 => congrArg (f a :: ·) (erase_map f l i)
theorem two_s : ∀ os : List O, os.length = 2 → (∀ o ∈ os, ∃ x, o = .s x) → ∃ p q, os = [.s p, .s q]
  | [a, b], _, h => by
    obtain ⟨p, rfl⟩ := h a List.mem_cons_self
    obtain ⟨q, rfl⟩ := h b (List.mem_cons_of_mem _ List.mem_cons_self)
    exact ⟨p, q, rfl⟩
theorem nmFree : Nm 32 "free" := by decide +kernel
theorem nmOther : Nm 32 "other" := by decide +kernel
theorem neFree : ("free" : Str) ≠ "circle" := by decide +kernel
theorem neOther : ("other" : Str) ≠ "circle" := by decide +kernel
def sg (c : Nat) : Str := ⟨#[c]⟩
theorem sg_n : decide (sg 110 = "n") = true ∧ decide (sg 107 = "n") = false ∧ decide (sg 80 = "n") = false ∧ decide (sg 76 = "n") = false ∧ decide (sg 67 = "n") = false := by decide +kernel
theorem sg_k : decide (sg 107 = "k") = true ∧ decide (sg 80 = "k") = false ∧ decide (sg 76 = "k") = false ∧ decide (sg 67 = "k") = false := by decide +kernel
theorem sg_p : sg 80 = "P" ∧ sg 76 = "L" ∧ sg 67 = "C" := by decide +kernel
theorem next_ok {b n0 : Nat} {T M : Mem} {ss : List Stp} {name : Str} {Q : D → Mem → Prop} (h : DkIs b T M) (hb : b ≤ 900000) (hT : T[n0]? = some (.lst (ss.map stD))) (hs : SkOk ss) (hl : ss.length ≤ 16) (hnm : Nm 32 name)
    (q : ∀ s M', s.n = name → StepOk (ss.map (·.n)) s → DkIs (b + 5) T M' → Q (stD s) M') : Go (f__law_next [.ref 1, .ref (n0 + 2), .str name, .lst (wordsL.map .str)] M) Q := by
  have hn0 : n0 < T.length := (List.getElem?_eq_some_iff.mp hT).1
  rw [f__law_next, go_callD, show startD 11 [D.ref 1, .ref (n0 + 2), .str name, .lst (wordsL.map .str)] = [some (.ref 1), some (.ref (n0 + 2)), some (.str name), some (.lst (wordsL.map .str)), none, none, none, none, none, none, none] from rfl, m__law_next]
  rw [go_seq, go_set, go_call]
  simp only [go_cons, go_nil, go_c, go_var, List.set_cons_succ, List.set_cons_zero, List.getElem?_cons_zero, List.getElem?_cons_succ]
  refine ⟨rfl, pick_ok h (by omega) (by decide) (by decide) fun word M1 hw h1 => ?_⟩
  rw [go_seq, go_set, go_call]
  simp only [go_cons, go_nil, go_c, go_var, List.set_cons_succ, List.set_cons_zero, List.getElem?_cons_zero, List.getElem?_cons_succ]
  refine ⟨rfl, draw_ok h1 (by omega) (by decide) (by decide) fun spare M2 s0 s1 h2 => ?_⟩
  rw [go_seq, go_set, go_disp]
  simp only [go_pcons, go_pnil, go_c, go_lstC, go_nil, List.set_cons_succ, List.set_cons_zero]
  refine ⟨by decide, by decide, by decide, _, rfl, by show 3 ≤ 15; decide, ?_⟩
  rw [go_bdF]
  have h2l := h2.len
  have e1 : mergeD [] ((fun ks => ((.inr "P" : Key), D.ref M2.length) :: ks) ((fun ks => ((.inr "L" : Key), D.ref (M2 ++ [Cell.lst []]).length) :: ks) ((fun ks => ((.inr "C" : Key), D.ref (M2 ++ [Cell.lst []] ++ [Cell.lst []]).length) :: ks) []))) = leftK T.length := by
    show [((.inr "P" : Key), D.ref M2.length), (.inr "L", D.ref (M2 ++ [Cell.lst []]).length), (.inr "C", D.ref (M2 ++ [Cell.lst []] ++ [Cell.lst []]).length)] = leftK T.length
    simp only [List.length_append, h2l]
    rfl
  simp only [e1, List.set_cons_succ, List.set_cons_zero]
  have lf0 : Lf (b + 1 + 1) T (ss.map (·.n)) [[], [], []] (M2 ++ [Cell.lst []] ++ [Cell.lst []] ++ [Cell.lst []]) := by
    refine ⟨?_, rfl, ?_, ?_⟩
    · have := ((DkIs.add (N := []) (by rw [List.append_nil]; exact h2) (.lst [])).add (.lst [])).add (.lst [])
      exact this
    · intro l hl
      rw [show l = [] by simpa using hl]
      decide
    · intro l hl
      rw [show l = [] by simpa using hl]
      nofun
  generalize M2 ++ [Cell.lst []] ++ [Cell.lst []] ++ [Cell.lst []] = M3 at lf0
  have old : ∀ {b : Nat} {U : List (List Str)} {M' : Mem}, Lf b T (ss.map (·.n)) U M' → M'[n0 + 2]? = some (.lst (ss.map stD)) := fun {b U M'} lf => by
    rw [lf.dk.old hn0]
    exact hT
  rw [go_seq, go_for, go_iter, go_var]
  simp only [List.getElem?_cons_zero, List.getElem?_cons_succ]
  have it : itemsOf (.ref (n0 + 2)) M3 = some ⟨ss.map stD, fun M' => M'[n0 + 2]? = some (.lst (ss.map stD))⟩ := by
    simp only [itemsOf, old lf0]
  refine ⟨_, it, ?_⟩
  refine go_loop (fun rem env M' => ∃ (post : List Stp) (U : List (List Str)) (x : Option D), rem = post.map stD ∧ (∀ s ∈ post, s ∈ ss) ∧ Lf (b + 1 + 1) T (ss.map (·.n)) U M' ∧ (∀ l ∈ U, l.length + post.length ≤ 16) ∧
    env = [some (.ref 1), some (.ref (n0 + 2)), some (.str name), some (.lst (wordsL.map .str)), some (.str word), some (.int spare), some (.dic (leftK T.length)), x, none, none, none]) ?_ ?_ _ _ _ ⟨ss, _, none, rfl, fun _ h => h, lf0, fun l hl' => by rw [show l = [] by simpa using hl']; exact Nat.le_trans (Nat.le_of_eq (Nat.zero_add _)) hl, rfl⟩
  · rintro d rem env M' ⟨post, U, x, e, hp, lf, hu, rfl⟩
    refine ⟨old lf, _, rfl, ?_⟩
    cases post with
    | nil => cases e
    | cons s post =>
      cases e
      have hs1 := hp s List.mem_cons_self
      have hp1 : ∀ s ∈ post, s ∈ ss := fun x hx => hp x (List.mem_cons_of_mem _ hx)
      simp only [go_seq, go_setItem, go_bin, go_un, go_var, go_c, go_test, go_andT, go_orT, go_notT, go_yes, go_andV, go_if, go_nil, go_cons, go_tup, go_lst, go_lstC, go_cb, go_call, go_meth, go_noPart, go_part, go_sl, go_get, go_next, go_drop, go_ret, go_retN, go_ifS, go_set, go_for, go_lc, go_dc, go_iter, go_enum, go_rng, go_rng1, go_rng2, go_rng3, go_disp, go_pnil, go_pcons, go_bdT, go_bdF, go_ok, go_nx, go_rt, go_addI, go_addS, go_addT, go_addL, go_subI, go_mulI, go_mulL, go_modI, go_fdivI, go_powI, go_ltI, go_leI, go_gtI, go_geI, go_eqI, go_eqS, go_neI, go_neS, go_ixF, go_ixT, go_ixS, go_ixD, go_slT, go_slF, go_slR, go_slS, go_revF, go_revCF, go_revAT, go_revAL, List.getElem?_cons_zero, List.getElem?_cons_succ, List.set_cons_zero, List.set_cons_succ, List.length_cons, List.length_nil, D.int.injEq, D.bl.injEq, D.str.injEq, Option.some.injEq, exists_eq_left', go_listF, go_listT, go_tupleF, go_tupleT, go_lenF, go_lenT, go_lenS, go_isiS, go_isiI, go_intI, go_intB, go_maxI, it_lst, it_tupD, it_strD, en_lst, en_tup, fr_gN, wipeD, stD, at_0, at_1, true_and]
      refine sort_ok fun z hz => ?_
      obtain ⟨i, hi, ei⟩ := left_at (t := T.length) hz
      obtain ⟨l, hU, hlU, hc⟩ := lf.at_ hi
      have := hu l hlU
      rw [List.length_cons] at this
      refine ⟨_, ei, isLst_ref hc, ?_⟩
      rw [go_append hc]
      refine ⟨by rw [List.length_map]; omega, post, U.set i (l ++ [s.n]), _, rfl, hp1, lf.put (by rw [List.map_append]; rfl) (by rw [List.length_append, List.length_singleton]; omega) ?_, ?_, rfl⟩
      · intro y hy
        rcases List.mem_append.mp hy with z | z
        · exact lf.mem l hlU y z
        · rw [show y = s.n by simpa using z]
          exact List.mem_map.mpr ⟨s, hs1, rfl⟩
      · intro k hk
        rcases List.mem_or_eq_of_mem_set hk with z | z
        · have := hu k z
          rw [List.length_cons] at this
          omega
        · rw [z, List.length_append, List.length_singleton]
          omega
  rintro env M4 ⟨post, U, x, e, hp, lf, hu, rfl⟩
  refine ⟨old lf, ?_⟩
  have nms := hs.nms
  have fin : ∀ {b' : Nat} {U' : List (List Str)} {M' : Mem} (s : Stp), b' ≤ b + 5 → Lf b' T (ss.map (·.n)) U' M' → s.n = name → StepOk (ss.map (·.n)) s → Go (finish M (stD s) M') Q := fun {b' U' M'} s hb' lf' hsn hso =>
    go_fin_dk h (lf'.dk.mono hb') (frz_low (low_st _ s)) fun M2 h2 => q s M2 hsn hso h2
  have free : StepOk (ss.map (·.n)) ⟨"free", name, []⟩ := ⟨hnm, nmFree, Nat.zero_le _, nofun, nofun, fun z => absurd z neFree⟩
  rw [go_seq, go_ifS]
  simp only [go_test, go_bin, go_var, go_c, List.getElem?_cons_zero, List.getElem?_cons_succ, go_eqS, D.bl.injEq, exists_eq_left']
  split
  · rw [go_seq, go_set, go_call]
    simp only [go_cons, go_nil, go_var, List.getElem?_cons_zero, List.getElem?_cons_succ]
    refine ⟨rfl, others_ok (old lf) hs (by omega) fun ts ht htl => ?_⟩
    have lay : ∀ d ∈ ts.map tD3, layB d = true := fun d hd => by
      obtain ⟨t, ht', rfl⟩ := List.mem_map.mp hd
      obtain ⟨h1, h2, h3⟩ := ht t ht'
      show ((PyData.strOk t.1 && (PyData.strOk t.2.1 && (PyData.strOk t.2.2 && true))) && decide (max 0 (max 0 (max 0 0)) + 1 ≤ 60)) = true
      rw [(nms _ h1).strOk, (nms _ h2).strOk, (nms _ h3).strOk]
      rfl
    rw [go_ret, go_if]
    simp only [go_test, go_bin, go_var, go_lst, go_nil, List.set_cons_succ, List.set_cons_zero, List.getElem?_cons_zero, List.getElem?_cons_succ, go_neL lay, D.bl.injEq, exists_eq_left']
    refine ⟨by decide, ?_⟩
    split
    · next hne =>
      have tl : 0 < ts.length := by
        cases ts with
        | nil => exact absurd hne (by decide)
        | cons t ts => exact Nat.succ_pos _
      simp only [go_seq, go_setItem, go_bin, go_un, go_var, go_c, go_test, go_andT, go_orT, go_notT, go_yes, go_andV, go_if, go_nil, go_cons, go_tup, go_lst, go_lstC, go_cb, go_call, go_meth, go_noPart, go_part, go_sl, go_get, go_next, go_drop, go_ret, go_retN, go_ifS, go_set, go_for, go_lc, go_dc, go_iter, go_enum, go_rng, go_rng1, go_rng2, go_rng3, go_disp, go_pnil, go_pcons, go_bdT, go_bdF, go_ok, go_nx, go_rt, go_addI, go_addS, go_addT, go_addL, go_subI, go_mulI, go_mulL, go_modI, go_fdivI, go_powI, go_ltI, go_leI, go_gtI, go_geI, go_eqI, go_eqS, go_neI, go_neS, go_ixF, go_ixT, go_ixS, go_ixD, go_slT, go_slF, go_slR, go_slS, go_revF, go_revCF, go_revAT, go_revAL, List.getElem?_cons_zero, List.getElem?_cons_succ, List.set_cons_zero, List.set_cons_succ, List.length_cons, List.length_nil, D.int.injEq, D.bl.injEq, D.str.injEq, Option.some.injEq, exists_eq_left', go_listF, go_listT, go_tupleF, go_tupleT, go_lenF, go_lenT, go_lenS, go_isiS, go_isiI, go_intI, go_intB, go_maxI, it_lst, it_tupD, it_strD, en_lst, en_tup, fr_gN, wipeD]
      have tn : ((ts.map tD3).length : Int) ≠ 0 := by rw [List.length_map]; omega
      have tp : (0 : Int) < ((ts.map tD3).length : Int) := by rw [List.length_map]; omega
      refine ⟨by decide, tn, ?_⟩
      obtain ⟨a, ha, ha2⟩ := atI_of (xs := ts.map tD3) (Int.fmod_nonneg_of_pos spare tp) (Int.fmod_lt_of_pos spare tp)
      rw [List.getElem?_map] at ha
      obtain ⟨t, ht1, rfl⟩ := Option.map_eq_some_iff.mp ha
      obtain ⟨g1, g2, g3⟩ := ht t (List.mem_of_getElem? ht1)
      refine ⟨_, ha2, ?_⟩
      unfold tD3
      rw [go_addT]
      refine ⟨rfl, ?_⟩
      refine fin (⟨"other", name, [.s t.1, .s t.2.1, .s t.2.2]⟩ : Stp) (by omega) lf rfl ⟨hnm, nmOther, Nat.le_refl 3, fun x hx => ?_, fun k hk => by simp at hk, fun z => absurd z neOther⟩
      have : x = t.1 ∨ x = t.2.1 ∨ x = t.2.2 := by simpa using hx
      rcases this with rfl | rfl | rfl
      · exact g1
      · exact g2
      · exact g3
    · simp only [go_seq, go_setItem, go_bin, go_un, go_var, go_c, go_test, go_andT, go_orT, go_notT, go_yes, go_andV, go_if, go_nil, go_cons, go_tup, go_lst, go_lstC, go_cb, go_call, go_meth, go_noPart, go_part, go_sl, go_get, go_next, go_drop, go_ret, go_retN, go_ifS, go_set, go_for, go_lc, go_dc, go_iter, go_enum, go_rng, go_rng1, go_rng2, go_rng3, go_disp, go_pnil, go_pcons, go_bdT, go_bdF, go_ok, go_nx, go_rt, go_addI, go_addS, go_addT, go_addL, go_subI, go_mulI, go_mulL, go_modI, go_fdivI, go_powI, go_ltI, go_leI, go_gtI, go_geI, go_eqI, go_eqS, go_neI, go_neS, go_ixF, go_ixT, go_ixS, go_ixD, go_slT, go_slF, go_slR, go_slS, go_revF, go_revCF, go_revAT, go_revAL, List.getElem?_cons_zero, List.getElem?_cons_succ, List.set_cons_zero, List.set_cons_succ, List.length_cons, List.length_nil, D.int.injEq, D.bl.injEq, D.str.injEq, Option.some.injEq, exists_eq_left', go_listF, go_listT, go_tupleF, go_tupleT, go_lenF, go_lenT, go_lenS, go_isiS, go_isiI, go_intI, go_intB, go_maxI, it_lst, it_tupD, it_strD, en_lst, en_tup, fr_gN, wipeD]
      exact ⟨by decide, fin ⟨"free", name, []⟩ (by omega) lf rfl free⟩
  next hno =>
  rw [go_next, go_seq, go_set]
  simp only [go_tup, go_cons, go_nil, go_var, List.set_cons_succ, List.set_cons_zero, List.getElem?_cons_zero, List.getElem?_cons_succ, List.length_cons, List.length_nil]
  refine ⟨by decide, ?_⟩
  rw [go_seq, go_for, go_iter, go_bin, go_call, go_nil]
  refine ⟨rfl, forms_ok ?_⟩
  simp only [go_var, List.getElem?_cons_zero, List.getElem?_cons_succ, go_ixD]
  obtain ⟨z, ez, zl, zc, zz⟩ := forms_at word hw
  refine ⟨_, ez, _, rfl, ?_⟩
  refine go_loop (fun rem env M' => ∃ (cs : List Nat) (os : List O) (U : List (List Str)) (x y : Option D), rem = cs.map (fun c => .str ⟨#[c]⟩) ∧ os.length + cs.length = z.cps.toList.length ∧ (∀ c ∈ cs, c ∈ z.cps.toList) ∧ Lf (b + 1 + 1 + os.length) T (ss.map (·.n)) U M' ∧
      (∀ x, O.s x ∈ os → x ∈ ss.map (·.n)) ∧ (∀ k, O.i k ∈ os → 0 ≤ k ∧ k ≤ 10) ∧ (word = "circle" → ∀ o ∈ os, ∃ x, o = .s x) ∧
      env = [some (.ref 1), some (.ref (n0 + 2)), some (.str name), some (.lst (wordsL.map .str)), some (.str word), some (.int spare), some (.dic (leftK T.length)), x, some (.tup (.str word :: .str name :: os.map od)), y, none]) ?_ ?_ _ _ _ ⟨z.cps.toList, [], U, x, none, rfl, Nat.zero_add _, fun _ h => h, lf, nofun, nofun, nofun, rfl⟩
  · rintro d rem env M' ⟨cs, os, U, x, y, e, ho, hc, lf, os1, os2, os3, rfl⟩
    refine ⟨trivial, _, rfl, ?_⟩
    cases cs with
    | nil => cases e
    | cons c cs =>
      cases e
      rw [List.length_cons] at ho
      have hc0 := hc c List.mem_cons_self
      have hc1 : ∀ c ∈ cs, c ∈ z.cps.toList := fun x hx => hc x (List.mem_cons_of_mem _ hx)
      have add : ∀ {U' : List (List Str)} {M'' : Mem} (o : O), Lf (b + 1 + 1 + os.length + 1) T (ss.map (·.n)) U' M'' → (∀ x, o = .s x → x ∈ ss.map (·.n)) → (∀ k, o = .i k → 0 ≤ k ∧ k ≤ 10) → (word = "circle" → ∃ x, o = .s x) →
          ∃ (cs' : List Nat) (os' : List O) (U : List (List Str)) (x' y' : Option D), cs.map (fun c => D.str ⟨#[c]⟩) = cs'.map (fun c => D.str ⟨#[c]⟩) ∧ os'.length + cs'.length = z.cps.toList.length ∧ (∀ c ∈ cs', c ∈ z.cps.toList) ∧ Lf (b + 1 + 1 + os'.length) T (ss.map (·.n)) U M'' ∧
            (∀ x, O.s x ∈ os' → x ∈ ss.map (·.n)) ∧ (∀ k, O.i k ∈ os' → 0 ≤ k ∧ k ≤ 10) ∧ (word = "circle" → ∀ o ∈ os', ∃ x, o = .s x) ∧
            ([some (.ref 1), some (.ref (n0 + 2)), some (.str name), some (.lst (wordsL.map .str)), some (.str word), some (.int spare), some (.dic (leftK T.length)), x, some (.tup (.str word :: .str name :: os.map od ++ [od o])), some (.str ⟨#[c]⟩), none] : Ly.Env) = [some (.ref 1), some (.ref (n0 + 2)), some (.str name), some (.lst (wordsL.map .str)), some (.str word), some (.int spare), some (.dic (leftK T.length)), x', some (.tup (.str word :: .str name :: os'.map od)), y', none] := fun {U' M''} o lf' o1 o2 o3 =>
        ⟨cs, os ++ [o], U', x, _, rfl, by rw [List.length_append, List.length_singleton]; omega, hc1, by rw [List.length_append, List.length_singleton]; exact lf', fun x hx => by
          rcases List.mem_append.mp hx with q | q
          · exact os1 x q
          · exact o1 x (List.mem_singleton.mp q).symm, fun k hk => by
          rcases List.mem_append.mp hk with q | q
          · exact os2 k q
          · exact o2 k (List.mem_singleton.mp q).symm, fun hcw o' ho' => by
          rcases List.mem_append.mp ho' with q | q
          · exact os3 hcw o' q
          · rw [List.mem_singleton.mp q]
            exact o3 hcw, by rw [List.map_append]; rfl⟩
      simp only [List.set_cons_succ, List.set_cons_zero]
      have ol : os.length ≤ 3 := by omega
      have lf1 : Lf (b + 1 + 1 + os.length + 1) T (ss.map (·.n)) U M' := ⟨lf.dk.mono (by omega), lf.len, lf.sm, lf.mem⟩
      have szt : ∀ o : O, szOk ((D.str word :: D.str name :: os.map od).length + [od o].length) = true := fun o => decide_eq_true (by
        rw [List.length_cons, List.length_cons, List.length_map, List.length_singleton]
        omega)
      have draw : ∀ zc : Str, zc = "P" ∨ zc = "L" ∨ zc = "C" → sg c = zc → GoS (mIfS (mTest (mBin opEq (mBin opIx (mVar 6) (mVar 9)) (mLst mNil))) (mRet (mTup (mCons (mC (.str "free")) (mCons (mVar 2) mNil)))) (mAsg (mBin opAdd (mVar 8) (mTup (mCons (mMeth isLst fPopAt (mBin opIx (mVar 6) (mVar 9)) (mCons (mCall 2 f__law_draw (mCons (mVar 0) (mCons (mCB fLen (mCons (mBin opIx (mVar 6) (mVar 9)) mNil)) mNil))) mNil)) mNil))) (gN 8))
          [some (.ref 1), some (.ref (n0 + 2)), some (.str name), some (.lst (wordsL.map .str)), some (.str word), some (.int spare), some (.dic (leftK T.length)), x, some (.tup (.str word :: .str name :: os.map od)), some (.str ⟨#[c]⟩), none] M')
          (fun e2 M2 => ∃ (cs' : List Nat) (os' : List O) (U : List (List Str)) (x' y' : Option D), cs.map (fun c => D.str ⟨#[c]⟩) = cs'.map (fun c => D.str ⟨#[c]⟩) ∧ os'.length + cs'.length = z.cps.toList.length ∧ (∀ c ∈ cs', c ∈ z.cps.toList) ∧ Lf (b + 1 + 1 + os'.length) T (ss.map (·.n)) U M2 ∧
            (∀ x, O.s x ∈ os' → x ∈ ss.map (·.n)) ∧ (∀ k, O.i k ∈ os' → 0 ≤ k ∧ k ≤ 10) ∧ (word = "circle" → ∀ o ∈ os', ∃ x, o = .s x) ∧
            e2 = [some (.ref 1), some (.ref (n0 + 2)), some (.str name), some (.lst (wordsL.map .str)), some (.str word), some (.int spare), some (.dic (leftK T.length)), x', some (.tup (.str word :: .str name :: os'.map od)), y', none])
          (fun d M' => Go (finish M d M') Q) := by
        intro zc hzc hsg
        obtain ⟨i, hi, ei⟩ := left_at (t := T.length) hzc
        rw [← hsg] at ei
        obtain ⟨l, hU, hlU, hc⟩ := lf.at_ hi
        have lay : ∀ d ∈ l.map D.str, layB d = true := fun d hd => by
          obtain ⟨w, hw, rfl⟩ := List.mem_map.mp hd
          exact lay_str (nms w (lf.mem l hlU w hw))
        have ll := lf.sm l hlU
        simp only [go_seq, go_setItem, go_bin, go_un, go_var, go_c, go_test, go_andT, go_orT, go_notT, go_yes, go_andV, go_if, go_nil, go_cons, go_tup, go_lst, go_lstC, go_cb, go_call, go_meth, go_noPart, go_part, go_sl, go_get, go_next, go_drop, go_ret, go_retN, go_ifS, go_set, go_for, go_lc, go_dc, go_iter, go_enum, go_rng, go_rng1, go_rng2, go_rng3, go_disp, go_pnil, go_pcons, go_bdT, go_bdF, go_ok, go_nx, go_rt, go_addI, go_addS, go_addT, go_addL, go_subI, go_mulI, go_mulL, go_modI, go_fdivI, go_powI, go_ltI, go_leI, go_gtI, go_geI, go_eqI, go_eqS, go_neI, go_neS, go_ixF, go_ixT, go_ixS, go_ixD, go_slT, go_slF, go_slR, go_slS, go_revF, go_revCF, go_revAT, go_revAL, List.getElem?_cons_zero, List.getElem?_cons_succ, List.set_cons_zero, List.set_cons_succ, List.length_cons, List.length_nil, D.int.injEq, D.bl.injEq, D.str.injEq, Option.some.injEq, exists_eq_left', go_listF, go_listT, go_tupleF, go_tupleT, go_lenF, go_lenT, go_lenS, go_isiS, go_isiI, go_intI, go_intB, go_maxI, it_lst, it_tupD, it_strD, en_lst, en_tup, fr_gN, wipeD, show (keyOf (.str ⟨#[c]⟩)).bind (valD (leftK T.length)) = some (.ref (T.length + i + 2)) from ei, go_eqC hc lay]
        refine ⟨by decide, ?_⟩
        split
        · exact ⟨by decide, fin ⟨"free", name, []⟩ (by omega) lf rfl free⟩
        · next hne =>
          have lp : 0 < l.length := by
            cases l with
            | nil => exact absurd rfl hne
            | cons a l => exact Nat.succ_pos _
          rw [isLst_ref hc, go_lenC hc]
          refine ⟨rfl, trivial, draw_ok lf.dk (by omega) (by rw [List.length_map]; omega) (by rw [List.length_map]; omega) fun r M5 r0 r1 h5 => ?_⟩
          have lf5 : Lf (b + 1 + 1 + os.length + 1) T (ss.map (·.n)) U M5 := ⟨h5, lf.len, lf.sm, lf.mem⟩
          obtain ⟨l', hU', hlU', hc'⟩ := lf5.at_ hi
          rw [hU] at hU'
          cases hU'
          rw [List.length_map] at r1
          obtain ⟨a, ha⟩ : ∃ a, l[r.toNat]? = some a := ⟨_, List.getElem?_eq_getElem (by omega)⟩
          have hal := List.mem_of_getElem? ha
          rw [go_popAt hc']
          refine ⟨⟨r0, by rw [List.length_map]; exact r1, decide_eq_true (by rw [List.length_map]; omega)⟩, .str a, by rw [List.getElem?_map, ha]; rfl, by decide, ?_⟩
          refine ⟨szt (.s a), ?_⟩
          refine add (.s a) (lf5.put (l := l.eraseIdx r.toNat) (erase_map D.str l r.toNat) (Nat.le_trans (List.length_eraseIdx_le ..) ll) fun y hy => lf.mem l hlU y (List.mem_of_mem_eraseIdx hy)) (fun y hy => ?_) (fun k hk => nomatch hk) fun _ => ⟨a, rfl⟩
          cases hy
          exact lf.mem l hlU a hal
      rcases zc c hc0 with rfl | rfl | rfl | rfl | rfl
      · rw [go_ifS]
        simp only [go_test, go_bin, go_var, go_c, List.getElem?_cons_zero, List.getElem?_cons_succ, go_eqS, D.bl.injEq, exists_eq_left', show decide ((⟨#[80]⟩ : Str) = "n") = false from sg_n.2.2.1, if_false, Bool.false_eq_true]
        rw [go_ifS]
        simp only [go_test, go_bin, go_var, go_c, List.getElem?_cons_zero, List.getElem?_cons_succ, go_eqS, D.bl.injEq, exists_eq_left', show decide ((⟨#[80]⟩ : Str) = "k") = false from sg_k.2.1, if_false, Bool.false_eq_true]
        exact draw _ (.inl rfl) sg_p.1
      · rw [go_ifS]
        simp only [go_test, go_bin, go_var, go_c, List.getElem?_cons_zero, List.getElem?_cons_succ, go_eqS, D.bl.injEq, exists_eq_left', show decide ((⟨#[76]⟩ : Str) = "n") = false from sg_n.2.2.2.1, if_false, Bool.false_eq_true]
        rw [go_ifS]
        simp only [go_test, go_bin, go_var, go_c, List.getElem?_cons_zero, List.getElem?_cons_succ, go_eqS, D.bl.injEq, exists_eq_left', show decide ((⟨#[76]⟩ : Str) = "k") = false from sg_k.2.2.1, if_false, Bool.false_eq_true]
        exact draw _ (.inr (.inl rfl)) sg_p.2.1
      · rw [go_ifS]
        simp only [go_test, go_bin, go_var, go_c, List.getElem?_cons_zero, List.getElem?_cons_succ, go_eqS, D.bl.injEq, exists_eq_left', show decide ((⟨#[67]⟩ : Str) = "n") = false from sg_n.2.2.2.2, if_false, Bool.false_eq_true]
        rw [go_ifS]
        simp only [go_test, go_bin, go_var, go_c, List.getElem?_cons_zero, List.getElem?_cons_succ, go_eqS, D.bl.injEq, exists_eq_left', show decide ((⟨#[67]⟩ : Str) = "k") = false from sg_k.2.2.2, if_false, Bool.false_eq_true]
        exact draw _ (.inr (.inr rfl)) sg_p.2.2
      · have nc : word ≠ "circle" := fun z2 => by
          rw [zz z2] at hc0
          exact absurd hc0 (by decide)
        rw [go_ifS]
        simp only [go_test, go_bin, go_var, go_c, List.getElem?_cons_zero, List.getElem?_cons_succ, go_eqS, D.bl.injEq, exists_eq_left', show decide ((⟨#[110]⟩ : Str) = "n") = true from sg_n.1, if_true]
        simp only [go_seq, go_setItem, go_bin, go_un, go_var, go_c, go_test, go_andT, go_orT, go_notT, go_yes, go_andV, go_if, go_nil, go_cons, go_tup, go_lst, go_lstC, go_cb, go_call, go_meth, go_noPart, go_part, go_sl, go_get, go_next, go_drop, go_ret, go_retN, go_ifS, go_set, go_for, go_lc, go_dc, go_iter, go_enum, go_rng, go_rng1, go_rng2, go_rng3, go_disp, go_pnil, go_pcons, go_bdT, go_bdF, go_ok, go_nx, go_rt, go_addI, go_addS, go_addT, go_addL, go_subI, go_mulI, go_mulL, go_modI, go_fdivI, go_powI, go_ltI, go_leI, go_gtI, go_geI, go_eqI, go_eqS, go_neI, go_neS, go_ixF, go_ixT, go_ixS, go_ixD, go_slT, go_slF, go_slR, go_slS, go_revF, go_revCF, go_revAT, go_revAL, List.getElem?_cons_zero, List.getElem?_cons_succ, List.set_cons_zero, List.set_cons_succ, List.length_cons, List.length_nil, D.int.injEq, D.bl.injEq, D.str.injEq, Option.some.injEq, exists_eq_left', go_listF, go_listT, go_tupleF, go_tupleT, go_lenF, go_lenT, go_lenS, go_isiS, go_isiI, go_intI, go_intB, go_maxI, it_lst, it_tupD, it_strD, en_lst, en_tup, fr_gN, wipeD]
        refine ⟨by decide, by decide, szt (.i (1 + spare.fmod 3)), add (.i (1 + spare.fmod 3)) lf1 (fun _ z => nomatch z) (fun k hk => ?_) fun z => absurd z nc⟩
        cases hk
        have := Int.fmod_nonneg_of_pos spare (show (0 : Int) < 3 by decide)
        have := Int.fmod_lt_of_pos spare (show (0 : Int) < 3 by decide)
        omega
      · have nc : word ≠ "circle" := fun z2 => by
          rw [zz z2] at hc0
          exact absurd hc0 (by decide)
        rw [go_ifS]
        simp only [go_test, go_bin, go_var, go_c, List.getElem?_cons_zero, List.getElem?_cons_succ, go_eqS, D.bl.injEq, exists_eq_left', show decide ((⟨#[107]⟩ : Str) = "n") = false from sg_n.2.1, if_false, Bool.false_eq_true]
        rw [go_ifS]
        simp only [go_test, go_bin, go_var, go_c, List.getElem?_cons_zero, List.getElem?_cons_succ, go_eqS, D.bl.injEq, exists_eq_left', show decide ((⟨#[107]⟩ : Str) = "k") = true from sg_k.1, if_true]
        simp only [go_seq, go_setItem, go_bin, go_un, go_var, go_c, go_test, go_andT, go_orT, go_notT, go_yes, go_andV, go_if, go_nil, go_cons, go_tup, go_lst, go_lstC, go_cb, go_call, go_meth, go_noPart, go_part, go_sl, go_get, go_next, go_drop, go_ret, go_retN, go_ifS, go_set, go_for, go_lc, go_dc, go_iter, go_enum, go_rng, go_rng1, go_rng2, go_rng3, go_disp, go_pnil, go_pcons, go_bdT, go_bdF, go_ok, go_nx, go_rt, go_addI, go_addS, go_addT, go_addL, go_subI, go_mulI, go_mulL, go_modI, go_fdivI, go_powI, go_ltI, go_leI, go_gtI, go_geI, go_eqI, go_eqS, go_neI, go_neS, go_ixF, go_ixT, go_ixS, go_ixD, go_slT, go_slF, go_slR, go_slS, go_revF, go_revCF, go_revAT, go_revAL, List.getElem?_cons_zero, List.getElem?_cons_succ, List.set_cons_zero, List.set_cons_succ, List.length_cons, List.length_nil, D.int.injEq, D.bl.injEq, D.str.injEq, Option.some.injEq, exists_eq_left', go_listF, go_listT, go_tupleF, go_tupleT, go_lenF, go_lenT, go_lenS, go_isiS, go_isiI, go_intI, go_intB, go_maxI, it_lst, it_tupD, it_strD, en_lst, en_tup, fr_gN, wipeD]
        refine ⟨by decide, by decide, szt (.i (spare.fmod 2)), add (.i (spare.fmod 2)) lf1 (fun _ z => nomatch z) (fun k hk => ?_) fun z => absurd z nc⟩
        cases hk
        have := Int.fmod_nonneg_of_pos spare (show (0 : Int) < 2 by decide)
        have := Int.fmod_lt_of_pos spare (show (0 : Int) < 2 by decide)
        omega
  · rintro env M' ⟨cs, os, U, x, y, e, ho, hc, lf, os1, os2, os3, rfl⟩
    refine ⟨trivial, ?_⟩
    have e0 : cs = [] := by
      cases cs with
      | nil => rfl
      | cons c cs => cases e
    subst e0
    rw [List.length_nil] at ho
    simp only [go_ret, go_var, List.getElem?_cons_zero, List.getElem?_cons_succ]
    refine fin ⟨word, name, os⟩ (by omega) lf rfl ⟨hnm, words_nm word hw, by show os.length ≤ 3; omega, os1, os2, fun hcw => ?_⟩
    have z2 := zz hcw
    rw [z2] at ho
    have : os.length = 2 := ho
    exact two_s os this (os3 hcw)
end Wk17

namespace Wk17
open PySem PySem.Spec PyProof.Rows L2 Ly
structure Good (xs : List Str) (ss : List Stp) : Prop where
  ok : SkOk ss
  ns : ss.map (·.n) = xs.take ss.length
  le : ss.length ≤ 16
theorem Good.snoc {xs : List Str} {ss : List Stp} {s : Stp} (h : Good xs ss) (hs : StepOk (ss.map (·.n)) s) (hx : xs[ss.length]? = some s.n) (hl : ss.length < 16) : Good xs (ss ++ [s]) := by
  refine ⟨h.ok.snoc hs, ?_, by rw [List.length_append, List.length_singleton]; omega⟩
  rw [List.map_append, h.ns, List.length_append, List.length_singleton, List.take_succ, hx]
  rfl
theorem Good.take {xs : List Str} {ss : List Stp} (h : Good xs ss) (k : Nat) : Good xs (ss.take k) := by
  refine ⟨h.ok.take k, ?_, by rw [List.length_take]; have := h.le; omega⟩
  rw [List.map_take, h.ns, List.take_take, List.length_take]
theorem Good.nil {xs : List Str} : Good xs [] := ⟨fun pre s post e => by simp at e, rfl, by decide⟩
theorem Good.nm {xs : List Str} (hx : NamesOk xs) {ss : List Stp} (h : Good xs ss) {s : Stp} (hs : s ∈ ss) : Nm 32 s.n := (h.ok.mem hs).nm
theorem low_sts (k : Nat) : ∀ ss : List Stp, lowL k (ss.map stD) = true
  | [] => rfl
  | s :: ss => by
    show ((stD s).low k && lowL k (ss.map stD)) = true
    rw [low_st, low_sts k ss]
    rfl
theorem range_at {m i j : Nat} {r : List Nat} (h : (List.range m).drop i = j :: r) : j = i ∧ r = (List.range m).drop (i + 1) ∧ i < m := by
  have hi : i < m := by
    have : ((List.range m).drop i).length = (j :: r).length := by rw [h]
    rw [List.length_drop, List.length_range, List.length_cons] at this
    omega
  have e : (List.range m).drop i = i :: (List.range m).drop (i + 1) := by
    rw [List.drop_eq_getElem_cons (by rw [List.length_range]; exact hi), List.getElem_range]
  rw [e] at h
  cases h
  exact ⟨rfl, rfl, hi⟩
theorem wFree : Nm 32 "free" := nmFree
theorem wLine : Nm 32 "line" := by decide +kernel
theorem wCircle : Nm 32 "circle" := by decide +kernel
theorem wMiddle : Nm 32 "middle" := by decide +kernel
theorem neLine : ("line" : Str) ≠ "circle" := by decide +kernel
theorem neMiddle : ("middle" : Str) ≠ "circle" := by decide +kernel
theorem split3 {xs : List Str} (h : xs.length = 16) : ∃ a b c r, xs = a :: b :: c :: r := by
  match xs, h with
  | a :: b :: c :: r, _ => exact ⟨a, b, c, r, rfl⟩
theorem good3 {a b c : Str} {r : List Str} (ha : Nm 32 a) (hb : Nm 32 b) (hc : Nm 32 c) {w : Str} (hw : Nm 32 w) {p q : Str} (hp : p = a ∨ p = b) (hq : q = a ∨ q = b) : Good (a :: b :: c :: r) [⟨"free", a, []⟩, ⟨"free", b, []⟩, ⟨w, c, [.s p, .s q]⟩] := by
  have g1 : Good (a :: b :: c :: r) [⟨"free", a, []⟩] := Good.nil.snoc ⟨ha, nmFree, Nat.zero_le _, nofun, nofun, fun z => absurd z neFree⟩ rfl (by decide)
  have g2 : Good (a :: b :: c :: r) [⟨"free", a, []⟩, ⟨"free", b, []⟩] := g1.snoc (s := ⟨"free", b, []⟩) ⟨hb, nmFree, Nat.zero_le _, nofun, nofun, fun z => absurd z neFree⟩ rfl (by show 1 < 16; decide)
  refine g2.snoc (s := ⟨w, c, [.s p, .s q]⟩) ⟨hc, hw, by show 2 ≤ 3; decide, fun x hx => ?_, fun k hk => by simp at hk, fun _ => ⟨p, q, rfl⟩⟩ rfl (by show 2 < 16; decide)
  have : x = p ∨ x = q := by simpa using hx
  show x ∈ [a, b]
  rcases this with rfl | rfl
  · rcases hp with rfl | rfl
    · exact List.mem_cons_self
    · exact List.mem_cons_of_mem _ List.mem_cons_self
  · rcases hq with rfl | rfl
    · exact List.mem_cons_self
    · exact List.mem_cons_of_mem _ List.mem_cons_self
theorem at_2 {α : Type} {x y z : α} {xs : List α} : atI (x :: y :: z :: xs) 2 = some z := Ly.atI_nat (n := 2) rfl
noncomputable def skTail : MS := (mSeq (mFor (mRng rng2 (mCons (mC (.int 3)) (mCons (mCB fMax2 (mCons (mC (.int 3)) (mCons (mVar 2) mNil))) mNil))) (gN 5) (mDrop (mMeth isLst fAppend (mVar 4) (mCons (mCall 4 f__law_next (mCons (mVar 0) (mCons (mVar 4) (mCons (mBin opIx (mVar 1) (mVar 5)) (mCons (mVar 3) mNil))))) mNil))))
  (mRet (mCB fTuple (mCons (mSl (mVar 4) mNoPart (mPart (mVar 2))) mNil))))
theorem sk_tail {b : Nat} {T M M1 : Mem} {xs : List Str} {many : Int} {ss : List Stp} {Q : D → Mem → Prop} (h : DkIs b T M) (hb : b ≤ 800000) (hx : NamesOk xs) (m0 : 2 ≤ many) (m1 : many ≤ 14) (g : Good xs ss) (gl : ss.length = 3) (h1 : DkIs (b + 1) (T ++ [.lst (ss.map stD)]) M1)
    (q : ∀ ss M', Good xs ss → ss.length = many.toNat → DkIs (b + 60) T M' → Q (.tup (ss.map stD)) M') :
    GoS (skTail [some (.ref 1), some (.lst (xs.map .str)), some (.int many), some (.lst (wordsL.map .str)), some (.ref (T.length + 0 + 2)), none] M1) (fun _ M' => Go (finish M .non M') Q) fun d M' => Go (finish M d M') Q := by
  rw [skTail, go_seq, go_for]
  simp only [go_bin, go_un, go_var, go_c, go_test, go_andT, go_orT, go_notT, go_yes, go_andV, go_if, go_nil, go_cons, go_tup, go_lst, go_lstC, go_cb, go_call, go_meth, go_noPart, go_part, go_sl, go_get, go_retN, go_lc, go_dc, go_iter, go_enum, go_rng, go_rng1, go_rng2, go_rng3, go_disp, go_pnil, go_pcons, go_bdT, go_bdF, go_ok, go_nx, go_rt, go_addI, go_addS, go_addT, go_addL, go_subI, go_mulI, go_mulL, go_modI, go_fdivI, go_powI, go_ltI, go_leI, go_gtI, go_geI, go_eqI, go_eqS, go_neI, go_neS, go_ixF, go_ixT, go_ixS, go_ixD, go_slT, go_slF, go_slR, go_slS, go_revF, go_revCF, go_revAT, go_revAL, List.getElem?_cons_zero, List.getElem?_cons_succ, List.set_cons_zero, List.set_cons_succ, List.length_cons, List.length_nil, D.int.injEq, D.bl.injEq, D.str.injEq, Option.some.injEq, exists_eq_left', go_listF, go_listT, go_tupleF, go_tupleT, go_lenF, go_lenT, go_lenS, go_isiS, go_isiI, go_intI, go_intB, go_maxI, it_lst, it_tupD, it_strD, en_lst, en_tup, fr_gN, wipeD]
  refine ⟨⟨rngOk_of (by decide) (by decide), rngOk_of (by split <;> omega) (by split <;> omega)⟩, ?_⟩
  have hm : ((if many > 3 then many else 3) - 3).toNat = many.toNat - 3 := by
    split <;> omega
  rw [hm]
  refine go_loop (fun rem env M' => ∃ (i : Nat) (ss : List Stp) (x : Option D), rem = ((List.range (many.toNat - 3)).drop i).map (fun n => .int (3 + (n : Nat))) ∧ i ≤ many.toNat - 3 ∧ Good xs ss ∧ ss.length = 3 + i ∧ DkIs (b + 1 + 5 * i) (T ++ [.lst (ss.map stD)]) M' ∧
    env = [some (.ref 1), some (.lst (xs.map .str)), some (.int many), some (.lst (wordsL.map .str)), some (.ref (T.length + 0 + 2)), x]) ?_ ?_ _ _ _ ⟨0, ss, none, rfl, Nat.zero_le _, g, gl, h1, rfl⟩
  · rintro d rem env M' ⟨i, ss, x, e, hi, g, gl, h1, rfl⟩
    refine ⟨trivial, _, rfl, ?_⟩
    cases er : (List.range (many.toNat - 3)).drop i with
    | nil =>
      rw [er] at e
      cases e
    | cons j r =>
      rw [er] at e
      obtain ⟨rfl, rfl, hlt⟩ := range_at er
      cases e
      rw [go_drop]
      obtain ⟨nm, hnm⟩ : ∃ nm, xs[3 + j]? = some nm := ⟨_, List.getElem?_eq_getElem (by rw [hx.len]; omega)⟩
      have ai : atI (xs.map D.str) (3 + (j : Int)) = some (.str nm) := by
        rw [show (3 + (j : Int)) = ((3 + j : Nat) : Int) by omega]
        exact Ly.atI_nat (by rw [List.getElem?_map, hnm]; rfl)
      have hc : M'[T.length + 0 + 2]? = some (.lst (ss.map stD)) := (h1.new 0).trans rfl
      simp only [go_bin, go_un, go_var, go_c, go_test, go_andT, go_orT, go_notT, go_yes, go_andV, go_if, go_nil, go_cons, go_tup, go_lst, go_lstC, go_cb, go_call, go_meth, go_noPart, go_part, go_sl, go_get, go_retN, go_lc, go_dc, go_iter, go_enum, go_rng, go_rng1, go_rng2, go_rng3, go_disp, go_pnil, go_pcons, go_bdT, go_bdF, go_ok, go_nx, go_rt, go_addI, go_addS, go_addT, go_addL, go_subI, go_mulI, go_mulL, go_modI, go_fdivI, go_powI, go_ltI, go_leI, go_gtI, go_geI, go_eqI, go_eqS, go_neI, go_neS, go_ixF, go_ixT, go_ixS, go_ixD, go_slT, go_slF, go_slR, go_slS, go_revF, go_revCF, go_revAT, go_revAL, List.getElem?_cons_zero, List.getElem?_cons_succ, List.set_cons_zero, List.set_cons_succ, List.length_cons, List.length_nil, D.int.injEq, D.bl.injEq, D.str.injEq, Option.some.injEq, exists_eq_left', go_listF, go_listT, go_tupleF, go_tupleT, go_lenF, go_lenT, go_lenS, go_isiS, go_isiI, go_intI, go_intB, go_maxI, it_lst, it_tupD, it_strD, en_lst, en_tup, fr_gN, wipeD, ai, isLst_ref hc, true_and]
      refine next_ok h1 (by omega) (n0 := T.length + 0) (ss := ss) (by rw [List.getElem?_append_right (by omega)]; simp) g.ok (by omega) (hx.nm nm (List.mem_of_getElem? hnm)) fun s M2 hsn hso h2 => ?_
      have hc2 : M2[T.length + 0 + 2]? = some (.lst (ss.map stD)) := (h2.new 0).trans rfl
      rw [go_append hc2]
      refine ⟨by rw [List.length_map]; omega, j + 1, ss ++ [s], _, rfl, by omega, g.snoc hso (by rw [gl, hnm, hsn]) (by omega), by rw [List.length_append, List.length_singleton]; omega, ?_, rfl⟩
      have := h2.put 0 (.lst (ss.map stD ++ [stD s]))
      rw [show ss.map stD ++ [stD s] = (ss ++ [s]).map stD by rw [List.map_append]; rfl] at this ⊢
      exact this.mono (by omega)
  · rintro env M' ⟨i, ss, x, e, hi, g, gl, h1, rfl⟩
    refine ⟨trivial, ?_⟩
    have he : i = many.toNat - 3 := by
      have : ([] : List D).length = (((List.range (many.toNat - 3)).drop i).map (fun n => D.int (3 + (n : Nat)))).length := by rw [← e]
      rw [List.length_map, List.length_drop, List.length_range, List.length_nil] at this
      omega
    have hc : M'[T.length + 0 + 2]? = some (.lst (ss.map stD)) := (h1.new 0).trans rfl
    rw [go_ret]
    obtain ⟨mn, hmn⟩ : ∃ n : Nat, many = n := ⟨many.toNat, by omega⟩
    simp only [go_bin, go_un, go_var, go_c, go_test, go_andT, go_orT, go_notT, go_yes, go_andV, go_if, go_nil, go_cons, go_tup, go_lst, go_lstC, go_cb, go_call, go_meth, go_noPart, go_part, go_sl, go_get, go_retN, go_lc, go_dc, go_iter, go_enum, go_rng, go_rng1, go_rng2, go_rng3, go_disp, go_pnil, go_pcons, go_bdT, go_bdF, go_ok, go_nx, go_rt, go_addI, go_addS, go_addT, go_addL, go_subI, go_mulI, go_mulL, go_modI, go_fdivI, go_powI, go_ltI, go_leI, go_gtI, go_geI, go_eqI, go_eqS, go_neI, go_neS, go_ixF, go_ixT, go_ixS, go_ixD, go_slT, go_slF, go_slR, go_slS, go_revF, go_revCF, go_revAT, go_revAL, List.getElem?_cons_zero, List.getElem?_cons_succ, List.set_cons_zero, List.set_cons_succ, List.length_cons, List.length_nil, D.int.injEq, D.bl.injEq, D.str.injEq, Option.some.injEq, exists_eq_left', go_listF, go_listT, go_tupleF, go_tupleT, go_lenF, go_lenT, go_lenS, go_isiS, go_isiI, go_intI, go_intB, go_maxI, it_lst, it_tupD, it_strD, en_lst, en_tup, fr_gN, wipeD, go_slC hc, hmn, cut_to, ← List.map_take]
    refine go_fin_dk h (h1.mono (b' := b + 60) (by omega)) (frz_low ?_) fun M2 h2 => q _ M2 (g.take mn) ?_ h2
    · show lowL _ _ = true
      exact low_sts _ _
    · rw [List.length_take, hmn]
      omega
theorem sketch_ok {b : Nat} {T M : Mem} {xs : List Str} {many : Int} {Q : D → Mem → Prop} (h : DkIs b T M) (hb : b ≤ 800000) (hx : NamesOk xs) (m0 : 2 ≤ many) (m1 : many ≤ 14)
    (q : ∀ ss M', Good xs ss → ss.length = many.toNat → DkIs (b + 60) T M' → Q (.tup (ss.map stD)) M') : Go (f__law_sketch [.ref 1, .lst (xs.map .str), .int many, .lst (wordsL.map .str)] M) Q := by
  rw [f__law_sketch, go_callD, show startD 6 [D.ref 1, .lst (xs.map .str), .int many, .lst (wordsL.map .str)] = [some (.ref 1), some (.lst (xs.map .str)), some (.int many), some (.lst (wordsL.map .str)), none, none] from rfl, m__law_sketch]
  obtain ⟨x0, x1, x2, xr, e⟩ := split3 hx.len
  have n0 : Nm 32 x0 := hx.nm x0 (by rw [e]; simp)
  have n1 : Nm 32 x1 := hx.nm x1 (by rw [e]; simp)
  have n2 : Nm 32 x2 := hx.nm x2 (by rw [e]; simp)
  have i0 : atI (xs.map D.str) 0 = some (.str x0) := by rw [e]; exact at_0
  have i1 : atI (xs.map D.str) 1 = some (.str x1) := by rw [e]; exact at_1
  have i2 : atI (xs.map D.str) 2 = some (.str x2) := by rw [e]; exact at_2
  rw [go_seq, go_set, go_lstC]
  simp only [go_bin, go_un, go_var, go_c, go_test, go_andT, go_orT, go_notT, go_yes, go_andV, go_if, go_nil, go_cons, go_tup, go_lst, go_lstC, go_cb, go_call, go_meth, go_noPart, go_part, go_sl, go_get, go_retN, go_lc, go_dc, go_iter, go_enum, go_rng, go_rng1, go_rng2, go_rng3, go_disp, go_pnil, go_pcons, go_bdT, go_bdF, go_ok, go_nx, go_rt, go_addI, go_addS, go_addT, go_addL, go_subI, go_mulI, go_mulL, go_modI, go_fdivI, go_powI, go_ltI, go_leI, go_gtI, go_geI, go_eqI, go_eqS, go_neI, go_neS, go_ixF, go_ixT, go_ixS, go_ixD, go_slT, go_slF, go_slR, go_slS, go_revF, go_revCF, go_revAT, go_revAL, List.getElem?_cons_zero, List.getElem?_cons_succ, List.set_cons_zero, List.set_cons_succ, List.length_cons, List.length_nil, D.int.injEq, D.bl.injEq, D.str.injEq, Option.some.injEq, exists_eq_left', go_listF, go_listT, go_tupleF, go_tupleT, go_lenF, go_lenT, go_lenS, go_isiS, go_isiI, go_intI, go_intB, go_maxI, it_lst, it_tupD, it_strD, en_lst, en_tup, fr_gN, wipeD, i0, i1, i2]
  refine ⟨by decide, by decide, by decide, by decide, ?_⟩
  have hlen := h.len
  have h0 : DkIs b (T ++ [.lst (([⟨"free", x0, []⟩, ⟨"free", x1, []⟩, ⟨"line", x2, [.s x0, .s x1]⟩] : List Stp).map stD)]) (M ++ [.lst [D.tup [D.str "free", D.str x0], D.tup [D.str "free", D.str x1], D.tup [D.str "line", D.str x2, D.str x0, D.str x1]]]) := h.push _
  rw [go_seq, go_ifS, go_test, go_bin, go_call]
  simp only [go_bin, go_un, go_var, go_c, go_test, go_andT, go_orT, go_notT, go_yes, go_andV, go_if, go_nil, go_cons, go_tup, go_lst, go_lstC, go_cb, go_call, go_meth, go_noPart, go_part, go_sl, go_get, go_retN, go_lc, go_dc, go_iter, go_enum, go_rng, go_rng1, go_rng2, go_rng3, go_disp, go_pnil, go_pcons, go_bdT, go_bdF, go_ok, go_nx, go_rt, go_addI, go_addS, go_addT, go_addL, go_subI, go_mulI, go_mulL, go_modI, go_fdivI, go_powI, go_ltI, go_leI, go_gtI, go_geI, go_eqI, go_eqS, go_neI, go_neS, go_ixF, go_ixT, go_ixS, go_ixD, go_slT, go_slF, go_slR, go_slS, go_revF, go_revCF, go_revAT, go_revAL, List.getElem?_cons_zero, List.getElem?_cons_succ, List.set_cons_zero, List.set_cons_succ, List.length_cons, List.length_nil, D.int.injEq, D.bl.injEq, D.str.injEq, Option.some.injEq, exists_eq_left', go_listF, go_listT, go_tupleF, go_tupleT, go_lenF, go_lenT, go_lenS, go_isiS, go_isiI, go_intI, go_intB, go_maxI, it_lst, it_tupD, it_strD, en_lst, en_tup, fr_gN, wipeD]
  refine ⟨trivial, draw_ok h0 (by omega) (by decide) (by decide) fun r M1 r0 r1 h1 => ?_⟩
  simp only [go_bin, go_un, go_var, go_c, go_test, go_andT, go_orT, go_notT, go_yes, go_andV, go_if, go_nil, go_cons, go_tup, go_lst, go_lstC, go_cb, go_call, go_meth, go_noPart, go_part, go_sl, go_get, go_retN, go_lc, go_dc, go_iter, go_enum, go_rng, go_rng1, go_rng2, go_rng3, go_disp, go_pnil, go_pcons, go_bdT, go_bdF, go_ok, go_nx, go_rt, go_addI, go_addS, go_addT, go_addL, go_subI, go_mulI, go_mulL, go_modI, go_fdivI, go_powI, go_ltI, go_leI, go_gtI, go_geI, go_eqI, go_eqS, go_neI, go_neS, go_ixF, go_ixT, go_ixS, go_ixD, go_slT, go_slF, go_slR, go_slS, go_revF, go_revCF, go_revAT, go_revAL, List.getElem?_cons_zero, List.getElem?_cons_succ, List.set_cons_zero, List.set_cons_succ, List.length_cons, List.length_nil, D.int.injEq, D.bl.injEq, D.str.injEq, Option.some.injEq, exists_eq_left', go_listF, go_listT, go_tupleF, go_tupleT, go_lenF, go_lenT, go_lenS, go_isiS, go_isiI, go_intI, go_intB, go_maxI, it_lst, it_tupD, it_strD, en_lst, en_tup, fr_gN, wipeD]
  rw [hlen]
  split
  · rw [go_setItem]
    simp only [go_bin, go_un, go_var, go_c, go_test, go_andT, go_orT, go_notT, go_yes, go_andV, go_if, go_nil, go_cons, go_tup, go_lst, go_lstC, go_cb, go_call, go_meth, go_noPart, go_part, go_sl, go_get, go_retN, go_lc, go_dc, go_iter, go_enum, go_rng, go_rng1, go_rng2, go_rng3, go_disp, go_pnil, go_pcons, go_bdT, go_bdF, go_ok, go_nx, go_rt, go_addI, go_addS, go_addT, go_addL, go_subI, go_mulI, go_mulL, go_modI, go_fdivI, go_powI, go_ltI, go_leI, go_gtI, go_geI, go_eqI, go_eqS, go_neI, go_neS, go_ixF, go_ixT, go_ixS, go_ixD, go_slT, go_slF, go_slR, go_slS, go_revF, go_revCF, go_revAT, go_revAL, List.getElem?_cons_zero, List.getElem?_cons_succ, List.set_cons_zero, List.set_cons_succ, List.length_cons, List.length_nil, D.int.injEq, D.bl.injEq, D.str.injEq, Option.some.injEq, exists_eq_left', go_listF, go_listT, go_tupleF, go_tupleT, go_lenF, go_lenT, go_lenS, go_isiS, go_isiI, go_intI, go_intB, go_maxI, it_lst, it_tupD, it_strD, en_lst, en_tup, fr_gN, wipeD, i0, i1, i2]
    have hc : M1[T.length + 0 + 2]? = some (.lst [D.tup [D.str "free", D.str x0], D.tup [D.str "free", D.str x1], D.tup [D.str "line", D.str x2, D.str x0, D.str x1]]) := (h1.new 0).trans rfl
    refine ⟨by decide, M1.set (T.length + 0 + 2) (.lst [D.tup [D.str "free", D.str x0], D.tup [D.str "free", D.str x1], D.tup [D.str "circle", D.str x2, D.str x1, D.str x0]]), ?_, ?_⟩
    · have hc' : M1[T.length + 2]? = some (.lst [D.tup [D.str "free", D.str x0], D.tup [D.str "free", D.str x1], D.tup [D.str "line", D.str x2, D.str x0, D.str x1]]) := hc
      simp only [setM, hc']
      rfl
    · refine sk_tail (ss := [⟨"free", x0, []⟩, ⟨"free", x1, []⟩, ⟨"circle", x2, [.s x1, .s x0]⟩]) h hb hx m0 m1 (by rw [e]; exact good3 n0 n1 n2 wCircle (.inr rfl) (.inl rfl)) rfl ?_ q
      exact h1.put 0 _
  · rw [go_next]
    exact sk_tail (ss := [⟨"free", x0, []⟩, ⟨"free", x1, []⟩, ⟨"line", x2, [.s x0, .s x1]⟩]) h hb hx m0 m1 (by rw [e]; exact good3 n0 n1 n2 wLine (.inl rfl) (.inr rfl)) rfl h1 q
end Wk17

namespace Wk17
open PySem PySem.Spec PyProof.Rows L2 Ly
/-! ### what hangs -/
def txO (s : Stp) : List Str := s.os.filterMap fun o => match o with
  | .s x => some x
  | .i _ => none
def isS (d : D) : Bool := match d with
  | .str _ => true
  | _ => false
theorem strs_od : ∀ os : List O, ((os.map od).filter isS).map id = (os.filterMap fun o => match o with | .s x => some x | .i _ => none).map D.str
  | [] => rfl
  | .s x :: os => by
    show D.str x :: ((os.map od).filter isS).map id = _
    rw [strs_od os]
    rfl
  | .i k :: os => by
    show ((os.map od).filter isS).map id = _
    rw [strs_od os]
    rfl
theorem strs_mem {s : Stp} {x : Str} (h : x ∈ txO s) : .s x ∈ s.os := by
  obtain ⟨o, ho, e⟩ := List.mem_filterMap.mp h
  cases o with
  | s y =>
    cases e
    exact ho
  | i k => cases e
theorem strs_len (s : Stp) : (txO s).length ≤ s.os.length := List.length_filterMap_le _ _
theorem star_ok (s : Stp) (env : Ly.Env) (a b c : Nat) (hl : s.os.length ≤ 3) : (gStarD 3 2 [gN a, gN b, gN c]).f (stD s) env = some (((env.set a (some (.str s.w))).set b (some (.str s.n))).set c (some (.lst (s.os.map od)))) := by
  show gStarF 3 2 [gN a, gN b, gN c] (.tup (.str s.w :: .str s.n :: s.os.map od)) env = _
  unfold gStarF
  simp only []
  rw [if_pos (by rw [List.length_cons, List.length_cons, List.length_map]; omega)]
  rw [show (D.str s.w :: D.str s.n :: s.os.map od).length + 1 - 3 = (s.os.map od).length by rw [List.length_cons, List.length_cons]; omega]
  show gTs _ ([D.str s.w, D.str s.n] ++ [D.lst ((s.os.map od).take (s.os.map od).length)] ++ (s.os.map od).drop (s.os.map od).length) env = _
  rw [List.take_length, List.drop_length]
  rfl
theorem names_in_ok {M : Mem} {s : Stp} {Q : D → Mem → Prop} (hl : s.os.length ≤ 3) (q : Q (.tup ((txO s).map .str)) M) : Go (f_names_in [stD s] M) Q := by
  rw [f_names_in, go_callD, show startD 5 [stD s] = [some (stD s), none, none, none, none] from rfl, m_names_in]
  rw [go_seq, go_asg]
  simp only [go_bin, go_un, go_var, go_c, go_test, go_andT, go_orT, go_notT, go_yes, go_andV, go_if, go_nil, go_cons, go_tup, go_lst, go_lstC, go_cb, go_call, go_meth, go_noPart, go_part, go_sl, go_get, go_retN, go_lc, go_dc, go_iter, go_enum, go_rng, go_rng1, go_rng2, go_rng3, go_disp, go_pnil, go_pcons, go_bdT, go_bdF, go_ok, go_nx, go_rt, go_addI, go_addS, go_addT, go_addL, go_subI, go_mulI, go_mulL, go_modI, go_fdivI, go_powI, go_ltI, go_leI, go_gtI, go_geI, go_eqI, go_eqS, go_neI, go_neS, go_ixF, go_ixT, go_ixS, go_ixD, go_slT, go_slF, go_slR, go_slS, go_revF, go_revCF, go_revAT, go_revAL, List.getElem?_cons_zero, List.getElem?_cons_succ, List.set_cons_zero, List.set_cons_succ, List.length_cons, List.length_nil, D.int.injEq, D.bl.injEq, D.str.injEq, Option.some.injEq, exists_eq_left', go_listF, go_listT, go_tupleF, go_tupleT, go_lenF, go_lenT, go_lenS, go_isiS, go_isiI, go_intI, go_intB, go_maxI, it_lst, it_tupD, it_strD, en_lst, en_tup, fr_gN, wipeD]
  refine ⟨_, star_ok s _ 1 2 3 hl, ?_⟩
  rw [go_ret]
  simp only [go_bin, go_un, go_var, go_c, go_test, go_andT, go_orT, go_notT, go_yes, go_andV, go_if, go_nil, go_cons, go_tup, go_lst, go_lstC, go_cb, go_call, go_meth, go_noPart, go_part, go_sl, go_get, go_retN, go_lc, go_dc, go_iter, go_enum, go_rng, go_rng1, go_rng2, go_rng3, go_disp, go_pnil, go_pcons, go_bdT, go_bdF, go_ok, go_nx, go_rt, go_addI, go_addS, go_addT, go_addL, go_subI, go_mulI, go_mulL, go_modI, go_fdivI, go_powI, go_ltI, go_leI, go_gtI, go_geI, go_eqI, go_eqS, go_neI, go_neS, go_ixF, go_ixT, go_ixS, go_ixD, go_slT, go_slF, go_slR, go_slS, go_revF, go_revCF, go_revAT, go_revAL, List.getElem?_cons_zero, List.getElem?_cons_succ, List.set_cons_zero, List.set_cons_succ, List.length_cons, List.length_nil, D.int.injEq, D.bl.injEq, D.str.injEq, Option.some.injEq, exists_eq_left', go_listF, go_listT, go_tupleF, go_tupleT, go_lenF, go_lenT, go_lenS, go_isiS, go_isiI, go_intI, go_intB, go_maxI, it_lst, it_tupD, it_strD, en_lst, en_tup, fr_gN, wipeD]
  refine go_compP isS id trivial _ (by rw [List.length_map]; omega) ?_ ?_
  · intro d hd
    obtain ⟨o, ho, rfl⟩ := List.mem_map.mp hd
    refine ⟨_, rfl, ?_⟩
    cases o with
    | s x =>
      simp only [od, go_bin, go_un, go_var, go_c, go_test, go_andT, go_orT, go_notT, go_yes, go_andV, go_if, go_nil, go_cons, go_tup, go_lst, go_lstC, go_cb, go_call, go_meth, go_noPart, go_part, go_sl, go_get, go_retN, go_lc, go_dc, go_iter, go_enum, go_rng, go_rng1, go_rng2, go_rng3, go_disp, go_pnil, go_pcons, go_bdT, go_bdF, go_ok, go_nx, go_rt, go_addI, go_addS, go_addT, go_addL, go_subI, go_mulI, go_mulL, go_modI, go_fdivI, go_powI, go_ltI, go_leI, go_gtI, go_geI, go_eqI, go_eqS, go_neI, go_neS, go_ixF, go_ixT, go_ixS, go_ixD, go_slT, go_slF, go_slR, go_slS, go_revF, go_revCF, go_revAT, go_revAL, List.getElem?_cons_zero, List.getElem?_cons_succ, List.set_cons_zero, List.set_cons_succ, List.length_cons, List.length_nil, D.int.injEq, D.bl.injEq, D.str.injEq, Option.some.injEq, exists_eq_left', go_listF, go_listT, go_tupleF, go_tupleT, go_lenF, go_lenT, go_lenS, go_isiS, go_isiI, go_intI, go_intB, go_maxI, it_lst, it_tupD, it_strD, en_lst, en_tup, fr_gN, wipeD]
      exact ⟨rfl, trivial, fun _ => ⟨rfl, trivial⟩⟩
    | i k =>
      simp only [od, go_bin, go_un, go_var, go_c, go_test, go_andT, go_orT, go_notT, go_yes, go_andV, go_if, go_nil, go_cons, go_tup, go_lst, go_lstC, go_cb, go_call, go_meth, go_noPart, go_part, go_sl, go_get, go_retN, go_lc, go_dc, go_iter, go_enum, go_rng, go_rng1, go_rng2, go_rng3, go_disp, go_pnil, go_pcons, go_bdT, go_bdF, go_ok, go_nx, go_rt, go_addI, go_addS, go_addT, go_addL, go_subI, go_mulI, go_mulL, go_modI, go_fdivI, go_powI, go_ltI, go_leI, go_gtI, go_geI, go_eqI, go_eqS, go_neI, go_neS, go_ixF, go_ixT, go_ixS, go_ixD, go_slT, go_slF, go_slR, go_slS, go_revF, go_revCF, go_revAT, go_revAL, List.getElem?_cons_zero, List.getElem?_cons_succ, List.set_cons_zero, List.set_cons_succ, List.length_cons, List.length_nil, D.int.injEq, D.bl.injEq, D.str.injEq, Option.some.injEq, exists_eq_left', go_listF, go_listT, go_tupleF, go_tupleT, go_lenF, go_lenT, go_lenS, go_isiS, go_isiI, go_intI, go_intB, go_maxI, it_lst, it_tupD, it_strD, en_lst, en_tup, fr_gN, wipeD]
      exact ⟨rfl, trivial, fun z => nomatch z⟩
  · rw [strs_od]
    refine go_fin_same (frz_low ?_) q
    exact low_strs _ _
def hangF : List Str → Nat → List Stp → List Nat
  | _, _, [] => []
  | ns, k, s :: ss => if (txO s).any (fun x => decide (x ∈ ns)) then k :: hangF (ns ++ [s.n]) (k + 1) ss else hangF ns (k + 1) ss
theorem hangF_cons (ns : List Str) (k : Nat) (s : Stp) (ss : List Stp) : hangF ns k (s :: ss) = if (txO s).any (fun x => decide (x ∈ ns)) then k :: hangF (ns ++ [s.n]) (k + 1) ss else hangF ns (k + 1) ss := rfl
def inD_ (l : List Nat) : List D := l.map fun (k : Nat) => D.int (k : Int)
def nf (k : Nat) (ds : List D) : List D := (ds.zipIdx k).map fun p => .tup [.int (p.2 : Nat), p.1]
theorem nf_cons (k : Nat) (d : D) (ds : List D) : nf k (d :: ds) = .tup [.int (k : Nat), d] :: nf (k + 1) ds := by
  unfold nf
  rw [List.zipIdx_cons]
  rfl
theorem nf_0 (ds : List D) : numbered ds = nf 0 ds := rfl
/-- the dict's keys are these texts -/
def HasK (kvs : List (Key × D)) (ns : List Str) : Prop := ∀ x, (valD kvs (.inr x)).isSome = decide (x ∈ ns)
theorem valD_some (kvs : List (Key × D)) (k : Key) : (valD kvs k).isSome = kvs.any fun kv => decide (kv.1 = k) := by
  unfold valD
  rw [Option.isSome_map]
  induction kvs with
  | nil => rfl
  | cons a l ih =>
    rw [List.find?_cons, List.any_cons, ← ih]
    cases decide (a.1 = k) <;> rfl
theorem put_any (kvs : List (Key × D)) (n : Key) (v : D) (k : Key) : ((putD kvs n v).any fun kv => decide (kv.1 = k)) = ((kvs.any fun kv => decide (kv.1 = k)) || decide (n = k)) := by
  unfold putD
  split
  · next h =>
    have e : ((kvs.map fun kv => if kv.1 = n then (kv.1, v) else kv).any fun kv => decide (kv.1 = k)) = kvs.any fun kv => decide (kv.1 = k) := by
      rw [List.any_map]
      congr 1
      funext kv
      show decide ((if kv.1 = n then (kv.1, v) else kv).1 = k) = _
      split <;> rfl
    rw [e]
    by_cases z : n = k
    · subst z
      rw [h]
      rfl
    · rw [decide_eq_false z, Bool.or_false]
  · rw [List.any_append]
    simp
theorem HasK.put {kvs : List (Key × D)} {ns : List Str} (h : HasK kvs ns) (n : Str) (v : D) : HasK (putD kvs (.inr n) v) (ns ++ [n]) := fun x => by
  rw [valD_some, put_any, ← valD_some, h x]
  by_cases z : n = x
  · subst z
    simp
  · have : ¬ x = n := fun e => z e.symm
    simp [z, this]
theorem put_len (kvs : List (Key × D)) (n : Key) (v : D) : (putD kvs n v).length ≤ kvs.length + 1 := by
  unfold putD
  split
  · rw [List.length_map]
    omega
  · rw [List.length_append, List.length_singleton]
    exact Nat.le_refl _
theorem in_dict {M : Mem} {n : Nat} {kvs : List (Key × D)} {ns : List Str} {x : Str} (h : M[n]? = some (.dic kvs)) (hk : HasK kvs ns) : inM M (.str x) (.ref n) = some (decide (x ∈ ns)) := by
  have e : inM M (.str x) (.ref n) = (keyOf (.str x)).map fun k => (valD kvs k).isSome := by
    simp only [inM, dicOf, h]
  rw [e, ← hk x]
  rfl
theorem blsOf_map : ∀ bs : List Bool, blsOf (bs.map .bl) = some bs
  | [] => rfl
  | b :: bs => by
    show (blsOf (bs.map .bl)).map (fun xs => b :: xs) = _
    rw [blsOf_map bs]
    rfl
theorem go_bools {f : List Bool → Bool} {bs : List Bool} {M : Mem} {Q : D → Mem → Prop} (q : Q (.bl (f bs)) M) : Go (fBools f [.lst (bs.map .bl)] M) Q := by
  have e : fBools f [.lst (bs.map .bl)] M = .ok (.bl (f bs)) M := by
    have e2 : (lstOf (.lst (bs.map .bl)) M).bind blsOf = some bs := blsOf_map bs
    unfold fBools
    simp only [e2]
  rw [e]
  exact q
theorem at_a (M : Mem) (a b : Cell) : (M ++ [a] ++ [b])[M.length]? = some a := by simp
theorem at_b (M : Mem) (a b : Cell) : (M ++ [a] ++ [b])[M.length + 1]? = some b := by simp
theorem set_a (M : Mem) (a b c : Cell) : (M ++ [a] ++ [b]).set M.length c = M ++ [c] ++ [b] := by simp
theorem set_b (M : Mem) (a b c : Cell) : (M ++ [a] ++ [b]).set (M.length + 1) c = M ++ [a] ++ [c] := by simp
theorem go_fin_app2 {M : Mem} {a b : Cell} {d d' : D} {Q : D → Mem → Prop} (e : frzD M.length (M ++ [a] ++ [b]) 20 d = some d') (q : Q d' M) : Go (finish M d (M ++ [a] ++ [b])) Q := by
  rw [List.append_assoc] at e ⊢
  exact go_fin_app e q
theorem low_intsN (k : Nat) (l : List Nat) : lowL k (inD_ l) = true := by
  unfold inD_
  have := low_ints k (l.map fun (n : Nat) => (n : Int))
  rw [List.map_map] at this
  exact this
theorem frz_at {k n m : Nat} {M : Mem} {ds : List D} (h : M[m]? = some (.lst ds)) (hm : k ≤ m) (hl : lowL k ds = true) : frzD k M (n + 2) (.ref m) = some (.lst ds) := by
  have fk : ∀ l : List D, lowL k l = true → frL (frzD k M (n + 1)) l = some l := by
    intro l
    induction l with
    | nil => exact fun _ => rfl
    | cons d l ih =>
      intro hl
      unfold lowL at hl
      show ((frzD k M (n + 1) d).bind fun a => (frL (frzD k M (n + 1)) l).map fun b => a :: b) = _
      rw [frz_low (and_l hl), ih (and_r hl)]
      rfl
  have nl : ¬ (D.ref m).low k = true := by
    unfold D.low
    simp
    exact hm
  unfold frzD
  rw [if_neg nl]
  show (M[m]?).bind (frzC (frzD k M (n + 1))) = _
  rw [h]
  show (frL (frzD k M (n + 1)) ds).map D.lst = _
  rw [fk ds hl]
  rfl
theorem hanging_ok {M : Mem} {xs : List Str} {ss : List Stp} {name : Str} {Q : D → Mem → Prop} (g : Good xs ss) (q : Q (.tup (inD_ (hangF [name] 0 ss))) M) : Go (f_hanging [.tup (ss.map stD), .str name] M) Q := by
  rw [f_hanging, go_callD, show startD 7 [.tup (ss.map stD), .str name] = [some (.tup (ss.map stD)), some (.str name), none, none, none, none, none] from rfl, m_hanging]
  rw [go_seq, go_set, go_lstC, go_nil]
  refine ⟨by decide, ?_⟩
  rw [go_seq, go_set]
  simp only [go_bin, go_un, go_var, go_c, go_test, go_andT, go_orT, go_notT, go_yes, go_andV, go_if, go_nil, go_cons, go_tup, go_lst, go_lstC, go_cb, go_call, go_meth, go_noPart, go_part, go_sl, go_get, go_retN, go_lc, go_dc, go_iter, go_enum, go_rng, go_rng1, go_rng2, go_rng3, go_disp, go_pnil, go_pcons, go_bdT, go_bdF, go_ok, go_nx, go_rt, go_addI, go_addS, go_addT, go_addL, go_subI, go_mulI, go_mulL, go_modI, go_fdivI, go_powI, go_ltI, go_leI, go_gtI, go_geI, go_eqI, go_eqS, go_neI, go_neS, go_ixF, go_ixT, go_ixS, go_ixD, go_slT, go_slF, go_slR, go_slS, go_revF, go_revCF, go_revAT, go_revAL, List.getElem?_cons_zero, List.getElem?_cons_succ, List.set_cons_zero, List.set_cons_succ, List.length_cons, List.length_nil, D.int.injEq, D.bl.injEq, D.str.injEq, Option.some.injEq, exists_eq_left', go_listF, go_listT, go_tupleF, go_tupleT, go_lenF, go_lenT, go_lenS, go_isiS, go_isiI, go_intI, go_intB, go_maxI, it_lst, it_tupD, it_strD, en_lst, en_tup, fr_gN, wipeD]
  refine ⟨_, rfl, by show 1 ≤ 15; decide, ?_⟩
  rw [go_seq, go_for]
  simp only [go_bin, go_un, go_var, go_c, go_test, go_andT, go_orT, go_notT, go_yes, go_andV, go_if, go_nil, go_cons, go_tup, go_lst, go_lstC, go_cb, go_call, go_meth, go_noPart, go_part, go_sl, go_get, go_retN, go_lc, go_dc, go_iter, go_enum, go_rng, go_rng1, go_rng2, go_rng3, go_disp, go_pnil, go_pcons, go_bdT, go_bdF, go_ok, go_nx, go_rt, go_addI, go_addS, go_addT, go_addL, go_subI, go_mulI, go_mulL, go_modI, go_fdivI, go_powI, go_ltI, go_leI, go_gtI, go_geI, go_eqI, go_eqS, go_neI, go_neS, go_ixF, go_ixT, go_ixS, go_ixD, go_slT, go_slF, go_slR, go_slS, go_revF, go_revCF, go_revAT, go_revAL, List.getElem?_cons_zero, List.getElem?_cons_succ, List.set_cons_zero, List.set_cons_succ, List.length_cons, List.length_nil, D.int.injEq, D.bl.injEq, D.str.injEq, Option.some.injEq, exists_eq_left', go_listF, go_listT, go_tupleF, go_tupleT, go_lenF, go_lenT, go_lenS, go_isiS, go_isiI, go_intI, go_intB, go_maxI, it_lst, it_tupD, it_strD, en_lst, en_tup, fr_gN, wipeD, List.length_append, List.length_singleton]
  refine go_loop (fun rem env M' => ∃ (pre post : List Stp) (acc : List Nat) (ns : List Str) (kvs : List (Key × D)) (x y : Option D), ss = pre ++ post ∧ rem = nf pre.length (post.map stD) ∧ acc ++ hangF ns pre.length post = hangF [name] 0 ss ∧ acc.length ≤ pre.length ∧ HasK kvs ns ∧ kvs.length ≤ pre.length + 1 ∧ M' = M ++ [.lst (inD_ acc)] ++ [.dic kvs] ∧
    env = [some (.tup (ss.map stD)), some (.str name), some (.ref M.length), some (.ref (M.length + 1)), x, y, none]) ?_ ?_ _ _ _ ⟨[], ss, [], [name], _, none, none, rfl, nf_0 _, rfl, Nat.le_refl _, fun x => ?_, Nat.le_refl _, rfl, rfl⟩
  · rintro d rem env M' ⟨pre, post, acc, ns, kvs, x, y, ep, er, eh, al, hk, kl, rfl, rfl⟩
    cases post with
    | nil => cases er
    | cons s post =>
      rw [List.map_cons, nf_cons] at er
      cases er
      have gs : StepOk (pre.map (·.n)) s := g.ok pre s post ep
      have pl : pre.length < 16 := by
        have := g.le
        rw [ep, List.length_append, List.length_cons] at this
        omega
      refine ⟨trivial, _, rfl, ?_⟩
      rw [go_ifS]
      simp only [go_bin, go_un, go_var, go_c, go_test, go_andT, go_orT, go_notT, go_yes, go_andV, go_if, go_nil, go_cons, go_tup, go_lst, go_lstC, go_cb, go_call, go_meth, go_noPart, go_part, go_sl, go_get, go_retN, go_lc, go_dc, go_iter, go_enum, go_rng, go_rng1, go_rng2, go_rng3, go_disp, go_pnil, go_pcons, go_bdT, go_bdF, go_ok, go_nx, go_rt, go_addI, go_addS, go_addT, go_addL, go_subI, go_mulI, go_mulL, go_modI, go_fdivI, go_powI, go_ltI, go_leI, go_gtI, go_geI, go_eqI, go_eqS, go_neI, go_neS, go_ixF, go_ixT, go_ixS, go_ixD, go_slT, go_slF, go_slR, go_slS, go_revF, go_revCF, go_revAT, go_revAL, List.getElem?_cons_zero, List.getElem?_cons_succ, List.set_cons_zero, List.set_cons_succ, List.length_cons, List.length_nil, D.int.injEq, D.bl.injEq, D.str.injEq, Option.some.injEq, exists_eq_left', go_listF, go_listT, go_tupleF, go_tupleT, go_lenF, go_lenT, go_lenS, go_isiS, go_isiI, go_intI, go_intB, go_maxI, it_lst, it_tupD, it_strD, en_lst, en_tup, fr_gN, wipeD]
      refine ⟨trivial, names_in_ok gs.len ?_⟩
      refine ⟨_, rfl, ?_⟩
      refine go_compP (fun _ => true) (fun d => match d with | .str x => .bl (decide (x ∈ ns)) | d => d) trivial _ (by rw [List.length_map]; have := strs_len s; have := gs.len; omega) ?_ ?_
      · intro d hd
        obtain ⟨x, hx, rfl⟩ := List.mem_map.mp hd
        refine ⟨_, rfl, ?_⟩
        simp only [go_bin, go_un, go_var, go_c, go_test, go_andT, go_orT, go_notT, go_yes, go_andV, go_if, go_nil, go_cons, go_tup, go_lst, go_lstC, go_cb, go_call, go_meth, go_noPart, go_part, go_sl, go_get, go_retN, go_lc, go_dc, go_iter, go_enum, go_rng, go_rng1, go_rng2, go_rng3, go_disp, go_pnil, go_pcons, go_bdT, go_bdF, go_ok, go_nx, go_rt, go_addI, go_addS, go_addT, go_addL, go_subI, go_mulI, go_mulL, go_modI, go_fdivI, go_powI, go_ltI, go_leI, go_gtI, go_geI, go_eqI, go_eqS, go_neI, go_neS, go_ixF, go_ixT, go_ixS, go_ixD, go_slT, go_slF, go_slR, go_slS, go_revF, go_revCF, go_revAT, go_revAL, List.getElem?_cons_zero, List.getElem?_cons_succ, List.set_cons_zero, List.set_cons_succ, List.length_cons, List.length_nil, D.int.injEq, D.bl.injEq, D.str.injEq, Option.some.injEq, exists_eq_left', go_listF, go_listT, go_tupleF, go_tupleT, go_lenF, go_lenT, go_lenS, go_isiS, go_isiI, go_intI, go_intB, go_maxI, it_lst, it_tupD, it_strD, en_lst, en_tup, fr_gN, wipeD, go_in, in_dict (at_b M _ _) hk]
        exact ⟨by trivial, by trivial, fun _ => ⟨by trivial, by trivial⟩⟩
      have e2 : (((txO s).map D.str).filter fun _ => true).map (fun d => match d with | .str x => .bl (decide (x ∈ ns)) | d => d) = ((txO s).map fun x => decide (x ∈ ns)).map D.bl := by
        rw [List.filter_eq_self.mpr (fun _ _ => rfl), List.map_map, List.map_map]
        rfl
      rw [e2]
      refine go_bools ?_
      rw [List.any_map]
      refine ⟨_, rfl, ?_⟩
      have ep2 : ss = (pre ++ [s]) ++ post := by rw [ep]; simp
      have pl2 : (pre ++ [s]).length = pre.length + 1 := by rw [List.length_append, List.length_singleton]
      rw [hangF_cons] at eh
      split
      · next hy =>
        rw [if_pos (by simpa using hy)] at eh
        rw [go_seq, go_drop]
        simp only [go_bin, go_un, go_var, go_c, go_test, go_andT, go_orT, go_notT, go_yes, go_andV, go_if, go_nil, go_cons, go_tup, go_lst, go_lstC, go_cb, go_call, go_meth, go_noPart, go_part, go_sl, go_get, go_retN, go_lc, go_dc, go_iter, go_enum, go_rng, go_rng1, go_rng2, go_rng3, go_disp, go_pnil, go_pcons, go_bdT, go_bdF, go_ok, go_nx, go_rt, go_addI, go_addS, go_addT, go_addL, go_subI, go_mulI, go_mulL, go_modI, go_fdivI, go_powI, go_ltI, go_leI, go_gtI, go_geI, go_eqI, go_eqS, go_neI, go_neS, go_ixF, go_ixT, go_ixS, go_ixD, go_slT, go_slF, go_slR, go_slS, go_revF, go_revCF, go_revAT, go_revAL, List.getElem?_cons_zero, List.getElem?_cons_succ, List.set_cons_zero, List.set_cons_succ, List.length_cons, List.length_nil, D.int.injEq, D.bl.injEq, D.str.injEq, Option.some.injEq, exists_eq_left', go_listF, go_listT, go_tupleF, go_tupleT, go_lenF, go_lenT, go_lenS, go_isiS, go_isiI, go_intI, go_intB, go_maxI, it_lst, it_tupD, it_strD, en_lst, en_tup, fr_gN, wipeD, isLst_ref (at_a M _ _), go_append (at_a M _ _), set_a, true_and]
        refine ⟨by unfold inD_; rw [List.length_map]; omega, ?_⟩
        rw [go_setItem]
        simp only [go_bin, go_un, go_var, go_c, go_test, go_andT, go_orT, go_notT, go_yes, go_andV, go_if, go_nil, go_cons, go_tup, go_lst, go_lstC, go_cb, go_call, go_meth, go_noPart, go_part, go_sl, go_get, go_retN, go_lc, go_dc, go_iter, go_enum, go_rng, go_rng1, go_rng2, go_rng3, go_disp, go_pnil, go_pcons, go_bdT, go_bdF, go_ok, go_nx, go_rt, go_addI, go_addS, go_addT, go_addL, go_subI, go_mulI, go_mulL, go_modI, go_fdivI, go_powI, go_ltI, go_leI, go_gtI, go_geI, go_eqI, go_eqS, go_neI, go_neS, go_ixF, go_ixT, go_ixS, go_ixD, go_slT, go_slF, go_slR, go_slS, go_revF, go_revCF, go_revAT, go_revAL, List.getElem?_cons_zero, List.getElem?_cons_succ, List.set_cons_zero, List.set_cons_succ, List.length_cons, List.length_nil, D.int.injEq, D.bl.injEq, D.str.injEq, Option.some.injEq, exists_eq_left', go_listF, go_listT, go_tupleF, go_tupleT, go_lenF, go_lenT, go_lenS, go_isiS, go_isiI, go_intI, go_intB, go_maxI, it_lst, it_tupD, it_strD, en_lst, en_tup, fr_gN, wipeD, stD, at_1]
        have sm : setM (M ++ [.lst (inD_ acc ++ [.int (pre.length : Nat)])] ++ [.dic kvs]) (.ref (M.length + 1)) (.str s.n) (.bl true) = some (M ++ [.lst (inD_ acc ++ [.int (pre.length : Nat)])] ++ [.dic (putD kvs (.inr s.n) (.bl true))]) := by
          simp only [setM, at_b, keyOf]
          rw [if_pos (show szOk (kvs.length + 1) = true from decide_eq_true (by omega)), set_b]
        refine ⟨_, sm, pre ++ [s], post, acc ++ [pre.length], ns ++ [s.n], _, _, _, ep2, by rw [pl2], by rw [← eh, pl2, List.append_assoc]; rfl, by rw [List.length_append, List.length_singleton, pl2]; omega, hk.put s.n (.bl true), by have := put_len kvs (.inr s.n) (.bl true); rw [pl2]; omega, ?_, rfl⟩
        unfold inD_
        rw [List.map_append]
        rfl
      · next hy =>
        rw [if_neg (by simpa using hy)] at eh
        rw [go_next]
        exact ⟨pre ++ [s], post, acc, ns, kvs, _, _, ep2, by rw [pl2], by rw [← eh, pl2], by rw [pl2]; omega, hk, by rw [pl2]; omega, rfl, rfl⟩
  · rintro env M' ⟨pre, post, acc, ns, kvs, x, y, ep, er, eh, al, hk, kl, rfl, rfl⟩
    refine ⟨trivial, ?_⟩
    cases post with
    | cons s post =>
      rw [List.map_cons, nf_cons] at er
      cases er
    | nil =>
      rw [go_ret]
      simp only [go_bin, go_un, go_var, go_c, go_test, go_andT, go_orT, go_notT, go_yes, go_andV, go_if, go_nil, go_cons, go_tup, go_lst, go_lstC, go_cb, go_call, go_meth, go_noPart, go_part, go_sl, go_get, go_retN, go_lc, go_dc, go_iter, go_enum, go_rng, go_rng1, go_rng2, go_rng3, go_disp, go_pnil, go_pcons, go_bdT, go_bdF, go_ok, go_nx, go_rt, go_addI, go_addS, go_addT, go_addL, go_subI, go_mulI, go_mulL, go_modI, go_fdivI, go_powI, go_ltI, go_leI, go_gtI, go_geI, go_eqI, go_eqS, go_neI, go_neS, go_ixF, go_ixT, go_ixS, go_ixD, go_slT, go_slF, go_slR, go_slS, go_revF, go_revCF, go_revAT, go_revAL, List.getElem?_cons_zero, List.getElem?_cons_succ, List.set_cons_zero, List.set_cons_succ, List.length_cons, List.length_nil, D.int.injEq, D.bl.injEq, D.str.injEq, Option.some.injEq, exists_eq_left', go_listF, go_listT, go_tupleF, go_tupleT, go_lenF, go_lenT, go_lenS, go_isiS, go_isiI, go_intI, go_intB, go_maxI, it_lst, it_tupD, it_strD, en_lst, en_tup, fr_gN, wipeD, go_tupleC (at_a M _ _)]
      have : acc = hangF [name] 0 ss := by
        rw [← eh]
        show acc = acc ++ []
        rw [List.append_nil]
      rw [this]
      exact go_fin_app2 (frz_low (low_intsN _ _)) q
  · show (valD [(.inr name, .bl true)] (.inr x)).isSome = decide (x ∈ [name])
    rw [valD_some]
    by_cases z : name = x
    · subst z
      simp
    · have : ¬ x = name := fun e => z e.symm
      simp [z, this]
theorem any_filter (l ns : List Str) : (!(l.filter fun x => decide (x ∈ ns)).isEmpty) = l.any fun x => decide (x ∈ ns) := by
  induction l with
  | nil => rfl
  | cons a l ih =>
    rw [List.filter_cons, List.any_cons, ← ih]
    cases decide (a ∈ ns) <;> rfl
theorem txO_in (ns : List Str) : ∀ os : List O, ((os.map od).filter fun d => match d with | .str x => decide (x ∈ ns) | _ => false).map id = ((os.filterMap fun o => match o with | .s x => some x | .i _ => none).filter fun x => decide (x ∈ ns)).map D.str
  | [] => rfl
  | .s x :: os => by
    have ih := txO_in ns os
    show (List.filter _ (D.str x :: os.map od)).map id = (List.filter _ (x :: os.filterMap _)).map D.str
    rw [List.filter_cons, List.filter_cons]
    show (if decide (x ∈ ns) = true then _ else _ : List D).map id = _
    split
    · rw [List.map_cons, List.map_cons, ih]
      rfl
    · exact ih
  | .i k :: os => by
    show (((os.map od).filter fun d => match d with | .str x => decide (x ∈ ns) | _ => false).map id) = _
    rw [txO_in ns os]
    rfl
theorem cut_2 (s : Stp) : Ly.cutD (.str s.w :: .str s.n :: s.os.map od) (some 2) none = s.os.map od := by
  rw [show (2 : Int) = ((2 : Nat) : Int) from rfl, cut_from]
  rfl
theorem lhang_ok {M : Mem} {xs : List Str} {ss : List Stp} {name : Str} {Q : D → Mem → Prop} (g : Good xs ss) (q : Q (.lst (inD_ (hangF [name] 0 ss))) M) : Go (f__law_hanging [.tup (ss.map stD), .str name] M) Q := by
  rw [f__law_hanging, go_callD, show startD 7 [.tup (ss.map stD), .str name] = [some (.tup (ss.map stD)), some (.str name), none, none, none, none, none] from rfl, m__law_hanging]
  rw [go_seq, go_set]
  simp only [go_bin, go_un, go_var, go_c, go_test, go_andT, go_orT, go_notT, go_yes, go_andV, go_if, go_nil, go_cons, go_tup, go_lst, go_lstC, go_cb, go_call, go_meth, go_noPart, go_part, go_sl, go_get, go_retN, go_lc, go_dc, go_iter, go_enum, go_rng, go_rng1, go_rng2, go_rng3, go_disp, go_pnil, go_pcons, go_bdT, go_bdF, go_ok, go_nx, go_rt, go_addI, go_addS, go_addT, go_addL, go_subI, go_mulI, go_mulL, go_modI, go_fdivI, go_powI, go_ltI, go_leI, go_gtI, go_geI, go_eqI, go_eqS, go_neI, go_neS, go_ixF, go_ixT, go_ixS, go_ixD, go_slT, go_slF, go_slR, go_slS, go_revF, go_revCF, go_revAT, go_revAL, List.getElem?_cons_zero, List.getElem?_cons_succ, List.set_cons_zero, List.set_cons_succ, List.length_cons, List.length_nil, D.int.injEq, D.bl.injEq, D.str.injEq, Option.some.injEq, exists_eq_left', go_listF, go_listT, go_tupleF, go_tupleT, go_lenF, go_lenT, go_lenS, go_isiS, go_isiI, go_intI, go_intB, go_maxI, it_lst, it_tupD, it_strD, en_lst, en_tup, fr_gN, wipeD]
  refine ⟨by decide, ?_⟩
  rw [go_seq, go_set]
  simp only [go_bin, go_un, go_var, go_c, go_test, go_andT, go_orT, go_notT, go_yes, go_andV, go_if, go_nil, go_cons, go_tup, go_lst, go_lstC, go_cb, go_call, go_meth, go_noPart, go_part, go_sl, go_get, go_retN, go_lc, go_dc, go_iter, go_enum, go_rng, go_rng1, go_rng2, go_rng3, go_disp, go_pnil, go_pcons, go_bdT, go_bdF, go_ok, go_nx, go_rt, go_addI, go_addS, go_addT, go_addL, go_subI, go_mulI, go_mulL, go_modI, go_fdivI, go_powI, go_ltI, go_leI, go_gtI, go_geI, go_eqI, go_eqS, go_neI, go_neS, go_ixF, go_ixT, go_ixS, go_ixD, go_slT, go_slF, go_slR, go_slS, go_revF, go_revCF, go_revAT, go_revAL, List.getElem?_cons_zero, List.getElem?_cons_succ, List.set_cons_zero, List.set_cons_succ, List.length_cons, List.length_nil, D.int.injEq, D.bl.injEq, D.str.injEq, Option.some.injEq, exists_eq_left', go_listF, go_listT, go_tupleF, go_tupleT, go_lenF, go_lenT, go_lenS, go_isiS, go_isiI, go_intI, go_intB, go_maxI, it_lst, it_tupD, it_strD, en_lst, en_tup, fr_gN, wipeD]
  refine ⟨by decide, ?_⟩
  rw [go_seq, go_for]
  simp only [go_bin, go_un, go_var, go_c, go_test, go_andT, go_orT, go_notT, go_yes, go_andV, go_if, go_nil, go_cons, go_tup, go_lst, go_lstC, go_cb, go_call, go_meth, go_noPart, go_part, go_sl, go_get, go_retN, go_lc, go_dc, go_iter, go_enum, go_rng, go_rng1, go_rng2, go_rng3, go_disp, go_pnil, go_pcons, go_bdT, go_bdF, go_ok, go_nx, go_rt, go_addI, go_addS, go_addT, go_addL, go_subI, go_mulI, go_mulL, go_modI, go_fdivI, go_powI, go_ltI, go_leI, go_gtI, go_geI, go_eqI, go_eqS, go_neI, go_neS, go_ixF, go_ixT, go_ixS, go_ixD, go_slT, go_slF, go_slR, go_slS, go_revF, go_revCF, go_revAT, go_revAL, List.getElem?_cons_zero, List.getElem?_cons_succ, List.set_cons_zero, List.set_cons_succ, List.length_cons, List.length_nil, D.int.injEq, D.bl.injEq, D.str.injEq, Option.some.injEq, exists_eq_left', go_listF, go_listT, go_tupleF, go_tupleT, go_lenF, go_lenT, go_lenS, go_isiS, go_isiI, go_intI, go_intB, go_maxI, it_lst, it_tupD, it_strD, en_lst, en_tup, fr_gN, wipeD, List.length_append, List.length_singleton]
  refine go_loop (fun rem env M' => ∃ (pre post : List Stp) (acc : List Nat) (ns : List Str) (x y : Option D), ss = pre ++ post ∧ rem = nf pre.length (post.map stD) ∧ acc ++ hangF ns pre.length post = hangF [name] 0 ss ∧ acc.length ≤ pre.length ∧ ns.length ≤ pre.length + 1 ∧ M' = M ++ [.lst (ns.map .str)] ++ [.lst (inD_ acc)] ∧
    env = [some (.tup (ss.map stD)), some (.str name), some (.ref M.length), some (.ref (M.length + 1)), x, y, none]) ?_ ?_ _ _ _ ⟨[], ss, [], [name], none, none, rfl, nf_0 _, rfl, Nat.le_refl _, Nat.le_refl _, rfl, rfl⟩
  · rintro d rem env M' ⟨pre, post, acc, ns, x, y, ep, er, eh, al, nl, rfl, rfl⟩
    cases post with
    | nil => cases er
    | cons s post =>
      rw [List.map_cons, nf_cons] at er
      cases er
      have gs : StepOk (pre.map (·.n)) s := g.ok pre s post ep
      have pl : pre.length < 16 := by
        have := g.le
        rw [ep, List.length_append, List.length_cons] at this
        omega
      refine ⟨trivial, _, rfl, ?_⟩
      rw [go_ifS]
      simp only [go_bin, go_un, go_var, go_c, go_test, go_andT, go_orT, go_notT, go_yes, go_andV, go_if, go_nil, go_cons, go_tup, go_lst, go_lstC, go_cb, go_call, go_meth, go_noPart, go_part, go_sl, go_get, go_retN, go_lc, go_dc, go_iter, go_enum, go_rng, go_rng1, go_rng2, go_rng3, go_disp, go_pnil, go_pcons, go_bdT, go_bdF, go_ok, go_nx, go_rt, go_addI, go_addS, go_addT, go_addL, go_subI, go_mulI, go_mulL, go_modI, go_fdivI, go_powI, go_ltI, go_leI, go_gtI, go_geI, go_eqI, go_eqS, go_neI, go_neS, go_ixF, go_ixT, go_ixS, go_ixD, go_slT, go_slF, go_slR, go_slS, go_revF, go_revCF, go_revAT, go_revAL, List.getElem?_cons_zero, List.getElem?_cons_succ, List.set_cons_zero, List.set_cons_succ, List.length_cons, List.length_nil, D.int.injEq, D.bl.injEq, D.str.injEq, Option.some.injEq, exists_eq_left', go_listF, go_listT, go_tupleF, go_tupleT, go_lenF, go_lenT, go_lenS, go_isiS, go_isiI, go_intI, go_intB, go_maxI, it_lst, it_tupD, it_strD, en_lst, en_tup, fr_gN, wipeD, stD, cut_2]
      refine go_compP (fun d => match d with | .str x => decide (x ∈ ns) | _ => false) id trivial _ (by rw [List.length_map]; have := gs.len; omega) ?_ ?_
      · intro d hd
        obtain ⟨o, ho, rfl⟩ := List.mem_map.mp hd
        refine ⟨_, rfl, ?_⟩
        cases o with
        | s x =>
          simp only [od, go_bin, go_un, go_var, go_c, go_test, go_andT, go_orT, go_notT, go_yes, go_andV, go_if, go_nil, go_cons, go_tup, go_lst, go_lstC, go_cb, go_call, go_meth, go_noPart, go_part, go_sl, go_get, go_retN, go_lc, go_dc, go_iter, go_enum, go_rng, go_rng1, go_rng2, go_rng3, go_disp, go_pnil, go_pcons, go_bdT, go_bdF, go_ok, go_nx, go_rt, go_addI, go_addS, go_addT, go_addL, go_subI, go_mulI, go_mulL, go_modI, go_fdivI, go_powI, go_ltI, go_leI, go_gtI, go_geI, go_eqI, go_eqS, go_neI, go_neS, go_ixF, go_ixT, go_ixS, go_ixD, go_slT, go_slF, go_slR, go_slS, go_revF, go_revCF, go_revAT, go_revAL, List.getElem?_cons_zero, List.getElem?_cons_succ, List.set_cons_zero, List.set_cons_succ, List.length_cons, List.length_nil, D.int.injEq, D.bl.injEq, D.str.injEq, Option.some.injEq, exists_eq_left', go_listF, go_listT, go_tupleF, go_tupleT, go_lenF, go_lenT, go_lenS, go_isiS, go_isiI, go_intI, go_intB, go_maxI, it_lst, it_tupD, it_strD, en_lst, en_tup, fr_gN, wipeD, if_true, go_in, in_cell (at_a M _ _)]
          exact ⟨by trivial, by trivial, fun _ => ⟨by trivial, by trivial⟩⟩
        | i k =>
          simp only [od, go_bin, go_un, go_var, go_c, go_test, go_andT, go_orT, go_notT, go_yes, go_andV, go_if, go_nil, go_cons, go_tup, go_lst, go_lstC, go_cb, go_call, go_meth, go_noPart, go_part, go_sl, go_get, go_retN, go_lc, go_dc, go_iter, go_enum, go_rng, go_rng1, go_rng2, go_rng3, go_disp, go_pnil, go_pcons, go_bdT, go_bdF, go_ok, go_nx, go_rt, go_addI, go_addS, go_addT, go_addL, go_subI, go_mulI, go_mulL, go_modI, go_fdivI, go_powI, go_ltI, go_leI, go_gtI, go_geI, go_eqI, go_eqS, go_neI, go_neS, go_ixF, go_ixT, go_ixS, go_ixD, go_slT, go_slF, go_slR, go_slS, go_revF, go_revCF, go_revAT, go_revAL, List.getElem?_cons_zero, List.getElem?_cons_succ, List.set_cons_zero, List.set_cons_succ, List.length_cons, List.length_nil, D.int.injEq, D.bl.injEq, D.str.injEq, Option.some.injEq, exists_eq_left', go_listF, go_listT, go_tupleF, go_tupleT, go_lenF, go_lenT, go_lenS, go_isiS, go_isiI, go_intI, go_intB, go_maxI, it_lst, it_tupD, it_strD, en_lst, en_tup, fr_gN, wipeD, if_false, Bool.false_eq_true]
          exact ⟨by trivial, by trivial, fun z => nomatch z⟩
      rw [txO_in]
      have lay : ∀ d ∈ ((s.os.filterMap fun o => match o with | .s x => some x | .i _ => none).filter fun x => decide (x ∈ ns)).map D.str, layB d = true := fun d hd => by
        obtain ⟨x, hx, rfl⟩ := List.mem_map.mp hd
        have hx2 := gs.str x (strs_mem (List.mem_filter.mp hx).1)
        obtain ⟨t, ht, rfl⟩ := List.mem_map.mp hx2
        exact lay_str (g.ok.mem (s := t) (by rw [ep]; exact List.mem_append_left _ ht)).nm
      refine ⟨by decide, ?_⟩
      rw [go_neL lay, List.isEmpty_map, any_filter]
      refine ⟨_, rfl, ?_⟩
      have ep2 : ss = (pre ++ [s]) ++ post := by rw [ep]; simp
      have pl2 : (pre ++ [s]).length = pre.length + 1 := by rw [List.length_append, List.length_singleton]
      rw [hangF_cons] at eh
      split
      · next hy =>
        rw [if_pos (show ((txO s).any fun x => decide (x ∈ ns)) = true from hy)] at eh
        rw [go_seq, go_drop]
        simp only [go_bin, go_un, go_var, go_c, go_test, go_andT, go_orT, go_notT, go_yes, go_andV, go_if, go_nil, go_cons, go_tup, go_lst, go_lstC, go_cb, go_call, go_meth, go_noPart, go_part, go_sl, go_get, go_retN, go_lc, go_dc, go_iter, go_enum, go_rng, go_rng1, go_rng2, go_rng3, go_disp, go_pnil, go_pcons, go_bdT, go_bdF, go_ok, go_nx, go_rt, go_addI, go_addS, go_addT, go_addL, go_subI, go_mulI, go_mulL, go_modI, go_fdivI, go_powI, go_ltI, go_leI, go_gtI, go_geI, go_eqI, go_eqS, go_neI, go_neS, go_ixF, go_ixT, go_ixS, go_ixD, go_slT, go_slF, go_slR, go_slS, go_revF, go_revCF, go_revAT, go_revAL, List.getElem?_cons_zero, List.getElem?_cons_succ, List.set_cons_zero, List.set_cons_succ, List.length_cons, List.length_nil, D.int.injEq, D.bl.injEq, D.str.injEq, Option.some.injEq, exists_eq_left', go_listF, go_listT, go_tupleF, go_tupleT, go_lenF, go_lenT, go_lenS, go_isiS, go_isiI, go_intI, go_intB, go_maxI, it_lst, it_tupD, it_strD, en_lst, en_tup, fr_gN, wipeD, isLst_ref (at_a M _ _), go_append (at_a M _ _), set_a, true_and, at_1]
        refine ⟨by rw [List.length_map]; omega, ?_⟩
        rw [go_drop]
        simp only [go_bin, go_un, go_var, go_c, go_test, go_andT, go_orT, go_notT, go_yes, go_andV, go_if, go_nil, go_cons, go_tup, go_lst, go_lstC, go_cb, go_call, go_meth, go_noPart, go_part, go_sl, go_get, go_retN, go_lc, go_dc, go_iter, go_enum, go_rng, go_rng1, go_rng2, go_rng3, go_disp, go_pnil, go_pcons, go_bdT, go_bdF, go_ok, go_nx, go_rt, go_addI, go_addS, go_addT, go_addL, go_subI, go_mulI, go_mulL, go_modI, go_fdivI, go_powI, go_ltI, go_leI, go_gtI, go_geI, go_eqI, go_eqS, go_neI, go_neS, go_ixF, go_ixT, go_ixS, go_ixD, go_slT, go_slF, go_slR, go_slS, go_revF, go_revCF, go_revAT, go_revAL, List.getElem?_cons_zero, List.getElem?_cons_succ, List.set_cons_zero, List.set_cons_succ, List.length_cons, List.length_nil, D.int.injEq, D.bl.injEq, D.str.injEq, Option.some.injEq, exists_eq_left', go_listF, go_listT, go_tupleF, go_tupleT, go_lenF, go_lenT, go_lenS, go_isiS, go_isiI, go_intI, go_intB, go_maxI, it_lst, it_tupD, it_strD, en_lst, en_tup, fr_gN, wipeD, isLst_ref (at_b M _ _), go_append (at_b M _ _), set_b, true_and]
        refine ⟨by unfold inD_; rw [List.length_map]; omega, pre ++ [s], post, acc ++ [pre.length], ns ++ [s.n], _, _, ep2, by rw [pl2], by rw [← eh, pl2, List.append_assoc]; rfl, by rw [List.length_append, List.length_singleton, pl2]; omega, by rw [List.length_append, List.length_singleton, pl2]; omega, ?_, rfl⟩
        unfold inD_
        rw [List.map_append, List.map_append]
        rfl
      · next hy =>
        rw [if_neg (show ¬ ((txO s).any fun x => decide (x ∈ ns)) = true from hy)] at eh
        rw [go_next]
        exact ⟨pre ++ [s], post, acc, ns, _, _, ep2, by rw [pl2], by rw [← eh, pl2], by rw [pl2]; omega, by rw [pl2]; omega, rfl, rfl⟩
  · rintro env M' ⟨pre, post, acc, ns, x, y, ep, er, eh, al, nl, rfl, rfl⟩
    refine ⟨trivial, ?_⟩
    cases post with
    | cons s post =>
      rw [List.map_cons, nf_cons] at er
      cases er
    | nil =>
      rw [go_ret]
      simp only [go_bin, go_un, go_var, go_c, go_test, go_andT, go_orT, go_notT, go_yes, go_andV, go_if, go_nil, go_cons, go_tup, go_lst, go_lstC, go_cb, go_call, go_meth, go_noPart, go_part, go_sl, go_get, go_retN, go_lc, go_dc, go_iter, go_enum, go_rng, go_rng1, go_rng2, go_rng3, go_disp, go_pnil, go_pcons, go_bdT, go_bdF, go_ok, go_nx, go_rt, go_addI, go_addS, go_addT, go_addL, go_subI, go_mulI, go_mulL, go_modI, go_fdivI, go_powI, go_ltI, go_leI, go_gtI, go_geI, go_eqI, go_eqS, go_neI, go_neS, go_ixF, go_ixT, go_ixS, go_ixD, go_slT, go_slF, go_slR, go_slS, go_revF, go_revCF, go_revAT, go_revAL, List.getElem?_cons_zero, List.getElem?_cons_succ, List.set_cons_zero, List.set_cons_succ, List.length_cons, List.length_nil, D.int.injEq, D.bl.injEq, D.str.injEq, Option.some.injEq, exists_eq_left', go_listF, go_listT, go_tupleF, go_tupleT, go_lenF, go_lenT, go_lenS, go_isiS, go_isiI, go_intI, go_intB, go_maxI, it_lst, it_tupD, it_strD, en_lst, en_tup, fr_gN, wipeD]
      have : acc = hangF [name] 0 ss := by
        rw [← eh]
        show acc = acc ++ []
        rw [List.append_nil]
      rw [this]
      exact go_fin_app2 (frz_at (at_b M _ _) (by omega) (low_intsN _ _)) q
end Wk17

namespace Wk17
open PySem PySem.Spec PyProof.Rows L2 Ly
/-! ### what is needed -/
def needR : List Str → List Stp → List Nat
  | _, [] => []
  | ws, s :: r => if s.n ∈ ws then needR (ws ++ txO s) r ++ [r.length] else needR ws r
def wantR : List Str → List Stp → List Str
  | ws, [] => ws
  | ws, s :: r => if s.n ∈ ws then wantR (ws ++ txO s) r else wantR ws r
def idxF (W : List Str) : Nat → List Stp → List Nat
  | _, [] => []
  | k, s :: ss => if s.n ∈ W then k :: idxF W (k + 1) ss else idxF W (k + 1) ss
def Acyc : List Stp → Prop
  | [] => True
  | s :: r => s.n ∉ txO s ∧ (∀ t ∈ r, s.n ∉ txO t) ∧ Acyc r
theorem idxF_app (W : List Str) : ∀ (a b : List Stp) (k : Nat), idxF W k (a ++ b) = idxF W k a ++ idxF W (k + a.length) b
  | [], b, k => rfl
  | s :: a, b, k => by
    show (if s.n ∈ W then k :: idxF W (k + 1) (a ++ b) else idxF W (k + 1) (a ++ b)) = _
    rw [idxF_app W a b (k + 1), show k + (s :: a).length = k + 1 + a.length by rw [List.length_cons]; omega]
    show _ = (if s.n ∈ W then k :: idxF W (k + 1) a else idxF W (k + 1) a) ++ _
    split <;> rfl
theorem want_sub : ∀ (r : List Stp) (ws : List Str) (x : Str), x ∈ ws → x ∈ wantR ws r
  | [], ws, x, h => h
  | s :: r, ws, x, h => by
    show x ∈ (if s.n ∈ ws then wantR (ws ++ txO s) r else wantR ws r)
    split
    · exact want_sub r _ x (List.mem_append_left _ h)
    · exact want_sub r _ x h
theorem want_of : ∀ (r : List Stp) (ws : List Str) (x : Str), x ∈ wantR ws r → x ∈ ws ∨ ∃ t ∈ r, x ∈ txO t
  | [], ws, x, h => .inl h
  | s :: r, ws, x, h => by
    have h : x ∈ (if s.n ∈ ws then wantR (ws ++ txO s) r else wantR ws r) := h
    split at h
    · rcases want_of r _ x h with z | ⟨t, ht, z⟩
      · rcases List.mem_append.mp z with z | z
        · exact .inl z
        · exact .inr ⟨s, List.mem_cons_self, z⟩
      · exact .inr ⟨t, List.mem_cons_of_mem _ ht, z⟩
    · rcases want_of r _ x h with z | ⟨t, ht, z⟩
      · exact .inl z
      · exact .inr ⟨t, List.mem_cons_of_mem _ ht, z⟩
theorem need_eq : ∀ (r : List Stp) (ws : List Str), Acyc r → idxF (wantR ws r) 0 r.reverse = needR ws r
  | [], ws, _ => rfl
  | s :: r, ws, ⟨h1, h2, h3⟩ => by
    have key : s.n ∈ wantR ws (s :: r) ↔ s.n ∈ ws := by
      refine ⟨fun h => ?_, want_sub _ _ _⟩
      rcases want_of _ _ _ h with z | ⟨t, ht, z⟩
      · exact z
      · rcases List.mem_cons.mp ht with rfl | ht
        · exact absurd z h1
        · exact absurd z (h2 t ht)
    rw [List.reverse_cons, idxF_app, List.length_reverse, Nat.zero_add]
    show idxF (wantR ws (s :: r)) 0 r.reverse ++ (if s.n ∈ wantR ws (s :: r) then r.length :: [] else []) = (if s.n ∈ ws then needR (ws ++ txO s) r ++ [r.length] else needR ws r)
    by_cases hn : s.n ∈ ws
    · rw [if_pos hn, if_pos (key.mpr hn)]
      rw [show wantR ws (s :: r) = wantR (ws ++ txO s) r from if_pos hn, need_eq r (ws ++ txO s) h3]
    · rw [if_neg hn, if_neg (fun z => hn (key.mp z))]
      rw [show wantR ws (s :: r) = wantR ws r from if_neg hn, need_eq r ws h3, List.append_nil]
theorem acyc : ∀ (n : Nat) (ss : List Stp), ss.length = n → SkOk ss → (ss.map (·.n)).Nodup → Acyc ss.reverse
  | 0, ss, hl, _, _ => by
    rw [List.eq_nil_of_length_eq_zero hl]
    exact trivial
  | n + 1, ss, hl, hs, hd => by
    rcases List.eq_nil_or_concat ss with rfl | ⟨pre, s, e⟩
    · cases hl
    · rw [List.concat_eq_append] at e
      subst e
      rw [List.reverse_append]
      rw [List.map_append, List.nodup_append] at hd
      have nin : s.n ∉ pre.map (·.n) := fun z => hd.2.2 _ z s.n (by simp) rfl
      have sp : StepOk (pre.map (·.n)) s := hs pre s [] rfl
      refine ⟨fun z => nin (sp.str _ (strs_mem z)), fun t ht z => ?_, acyc n pre (by rw [List.length_append, List.length_singleton] at hl; omega) (fun p t q e => hs p t (q ++ [s]) (by rw [e]; simp)) hd.1⟩
      have ht : t ∈ pre := by simpa using ht
      obtain ⟨p, q, e⟩ := List.append_of_mem ht
      have st : StepOk (p.map (·.n)) t := hs p t (q ++ [s]) (by rw [e]; simp)
      refine nin ?_
      rw [e, List.map_append]
      exact List.mem_append_left _ (st.str _ (strs_mem z))
theorem Good.acyc {xs : List Str} {ss : List Stp} (g : Good xs ss) (hx : NamesOk xs) : Acyc ss.reverse :=
  Wk17.acyc _ ss rfl g.ok (by rw [g.ns]; exact hx.nd.sublist (List.take_sublist _ _))
/-! the law's own -/
theorem lneed_core {M : Mem} {xs : List Str} {ss : List Stp} {ws : List Str} {arg : D} {Q : D → Mem → Prop} (g : Good xs ss) (hw : ws.length ≤ 100) (harg : arg = .lst (ws.map .str) ∨ arg = .tup (ws.map .str)) (q : Q (.lst (inD_ (idxF (wantR ws ss.reverse) 0 ss))) M) : Go (f__law_needed [.tup (ss.map stD), arg] M) Q := by
  rw [f__law_needed, go_callD, show startD 6 [.tup (ss.map stD), arg] = [some (.tup (ss.map stD)), some arg, none, none, none, none] from rfl, m__law_needed]
  rw [go_seq, go_set]
  have fl : ∀ {Q : D → Mem → Prop}, Q (.lst (ws.map .str)) M → Go (fList [arg] M) Q := fun {Q} h => by
    rcases harg with rfl | rfl
    · rw [go_listF]; exact h
    · rw [go_listT]; exact h
  simp only [go_bin, go_un, go_var, go_c, go_test, go_andT, go_orT, go_notT, go_yes, go_andV, go_if, go_nil, go_cons, go_tup, go_lst, go_lstC, go_cb, go_call, go_meth, go_noPart, go_part, go_sl, go_get, go_retN, go_lc, go_dc, go_iter, go_enum, go_rng, go_rng1, go_rng2, go_rng3, go_disp, go_pnil, go_pcons, go_bdT, go_bdF, go_ok, go_nx, go_rt, go_addI, go_addS, go_addT, go_addL, go_subI, go_mulI, go_mulL, go_modI, go_fdivI, go_powI, go_ltI, go_leI, go_gtI, go_geI, go_eqI, go_eqS, go_neI, go_neS, go_ixF, go_ixT, go_ixS, go_ixD, go_slT, go_slF, go_slR, go_slS, go_revF, go_revCF, go_revAT, go_revAL, List.getElem?_cons_zero, List.getElem?_cons_succ, List.set_cons_zero, List.set_cons_succ, List.length_cons, List.length_nil, D.int.injEq, D.bl.injEq, D.str.injEq, Option.some.injEq, exists_eq_left', go_listF, go_listT, go_tupleF, go_tupleT, go_lenF, go_lenT, go_lenS, go_isiS, go_isiI, go_intI, go_intB, go_maxI, it_lst, it_tupD, it_strD, en_lst, en_tup, fr_gN, wipeD]
  refine fl ?_
  rw [go_seq, go_for]
  simp only [go_bin, go_un, go_var, go_c, go_test, go_andT, go_orT, go_notT, go_yes, go_andV, go_if, go_nil, go_cons, go_tup, go_lst, go_lstC, go_cb, go_call, go_meth, go_noPart, go_part, go_sl, go_get, go_retN, go_lc, go_dc, go_iter, go_enum, go_rng, go_rng1, go_rng2, go_rng3, go_disp, go_pnil, go_pcons, go_bdT, go_bdF, go_ok, go_nx, go_rt, go_addI, go_addS, go_addT, go_addL, go_subI, go_mulI, go_mulL, go_modI, go_fdivI, go_powI, go_ltI, go_leI, go_gtI, go_geI, go_eqI, go_eqS, go_neI, go_neS, go_ixF, go_ixT, go_ixS, go_ixD, go_slT, go_slF, go_slR, go_slS, go_revF, go_revCF, go_revAT, go_revAL, List.getElem?_cons_zero, List.getElem?_cons_succ, List.set_cons_zero, List.set_cons_succ, List.length_cons, List.length_nil, D.int.injEq, D.bl.injEq, D.str.injEq, Option.some.injEq, exists_eq_left', go_listF, go_listT, go_tupleF, go_tupleT, go_lenF, go_lenT, go_lenS, go_isiS, go_isiI, go_intI, go_intB, go_maxI, it_lst, it_tupD, it_strD, en_lst, en_tup, fr_gN, wipeD, ← List.map_reverse]
  refine go_loop (fun rem env M' => ∃ (r : List Stp) (us : List Str) (y : Option D), rem = r.map stD ∧ (∀ s ∈ r, s ∈ ss) ∧ wantR us r = wantR ws ss.reverse ∧ us.length + 3 * r.length ≤ 200 ∧ M' = M ∧
    env = [some (.tup (ss.map stD)), some arg, some (.lst (us.map .str)), y, none, none]) ?_ ?_ _ _ _ ⟨ss.reverse, ws, none, rfl, fun s hs => by simpa using hs, rfl, by rw [List.length_reverse]; have := g.le; omega, rfl, rfl⟩
  · rintro d rem env M' ⟨r, us, y, er, hr, eh, ul, rfl, rfl⟩
    cases r with
    | nil => cases er
    | cons s r =>
      cases er
      have hs1 := hr s List.mem_cons_self
      have hr1 : ∀ s ∈ r, s ∈ ss := fun x hx => hr x (List.mem_cons_of_mem _ hx)
      have gs := g.ok.mem hs1
      rw [List.length_cons] at ul
      refine ⟨trivial, _, rfl, ?_⟩
      rw [go_ifS]
      simp only [go_bin, go_un, go_var, go_c, go_test, go_andT, go_orT, go_notT, go_yes, go_andV, go_if, go_nil, go_cons, go_tup, go_lst, go_lstC, go_cb, go_call, go_meth, go_noPart, go_part, go_sl, go_get, go_retN, go_lc, go_dc, go_iter, go_enum, go_rng, go_rng1, go_rng2, go_rng3, go_disp, go_pnil, go_pcons, go_bdT, go_bdF, go_ok, go_nx, go_rt, go_addI, go_addS, go_addT, go_addL, go_subI, go_mulI, go_mulL, go_modI, go_fdivI, go_powI, go_ltI, go_leI, go_gtI, go_geI, go_eqI, go_eqS, go_neI, go_neS, go_ixF, go_ixT, go_ixS, go_ixD, go_slT, go_slF, go_slR, go_slS, go_revF, go_revCF, go_revAT, go_revAL, List.getElem?_cons_zero, List.getElem?_cons_succ, List.set_cons_zero, List.set_cons_succ, List.length_cons, List.length_nil, D.int.injEq, D.bl.injEq, D.str.injEq, Option.some.injEq, exists_eq_left', go_listF, go_listT, go_tupleF, go_tupleT, go_lenF, go_lenT, go_lenS, go_isiS, go_isiI, go_intI, go_intB, go_maxI, it_lst, it_tupD, it_strD, en_lst, en_tup, fr_gN, wipeD, stD, at_1, go_in, in_lst]
      have eh2 : (if s.n ∈ us then wantR (us ++ txO s) r else wantR us r) = wantR ws ss.reverse := eh
      split
      · next hy =>
        rw [if_pos (of_decide_eq_true hy)] at eh2
        rw [go_set]
        simp only [go_bin, go_un, go_var, go_c, go_test, go_andT, go_orT, go_notT, go_yes, go_andV, go_if, go_nil, go_cons, go_tup, go_lst, go_lstC, go_cb, go_call, go_meth, go_noPart, go_part, go_sl, go_get, go_retN, go_lc, go_dc, go_iter, go_enum, go_rng, go_rng1, go_rng2, go_rng3, go_disp, go_pnil, go_pcons, go_bdT, go_bdF, go_ok, go_nx, go_rt, go_addI, go_addS, go_addT, go_addL, go_subI, go_mulI, go_mulL, go_modI, go_fdivI, go_powI, go_ltI, go_leI, go_gtI, go_geI, go_eqI, go_eqS, go_neI, go_neS, go_ixF, go_ixT, go_ixS, go_ixD, go_slT, go_slF, go_slR, go_slS, go_revF, go_revCF, go_revAT, go_revAL, List.getElem?_cons_zero, List.getElem?_cons_succ, List.set_cons_zero, List.set_cons_succ, List.length_cons, List.length_nil, D.int.injEq, D.bl.injEq, D.str.injEq, Option.some.injEq, exists_eq_left', go_listF, go_listT, go_tupleF, go_tupleT, go_lenF, go_lenT, go_lenS, go_isiS, go_isiI, go_intI, go_intB, go_maxI, it_lst, it_tupD, it_strD, en_lst, en_tup, fr_gN, wipeD, cut_2]
        refine go_compP isS id trivial _ (by rw [List.length_map]; have := gs.len; omega) ?_ ?_
        · intro d hd
          obtain ⟨o, ho, rfl⟩ := List.mem_map.mp hd
          refine ⟨_, rfl, ?_⟩
          cases o with
          | s x =>
            simp only [od, go_bin, go_un, go_var, go_c, go_test, go_andT, go_orT, go_notT, go_yes, go_andV, go_if, go_nil, go_cons, go_tup, go_lst, go_lstC, go_cb, go_call, go_meth, go_noPart, go_part, go_sl, go_get, go_retN, go_lc, go_dc, go_iter, go_enum, go_rng, go_rng1, go_rng2, go_rng3, go_disp, go_pnil, go_pcons, go_bdT, go_bdF, go_ok, go_nx, go_rt, go_addI, go_addS, go_addT, go_addL, go_subI, go_mulI, go_mulL, go_modI, go_fdivI, go_powI, go_ltI, go_leI, go_gtI, go_geI, go_eqI, go_eqS, go_neI, go_neS, go_ixF, go_ixT, go_ixS, go_ixD, go_slT, go_slF, go_slR, go_slS, go_revF, go_revCF, go_revAT, go_revAL, List.getElem?_cons_zero, List.getElem?_cons_succ, List.set_cons_zero, List.set_cons_succ, List.length_cons, List.length_nil, D.int.injEq, D.bl.injEq, D.str.injEq, Option.some.injEq, exists_eq_left', go_listF, go_listT, go_tupleF, go_tupleT, go_lenF, go_lenT, go_lenS, go_isiS, go_isiI, go_intI, go_intB, go_maxI, it_lst, it_tupD, it_strD, en_lst, en_tup, fr_gN, wipeD]
            exact ⟨by trivial, by trivial, fun _ => ⟨by trivial, by trivial⟩⟩
          | i k =>
            simp only [od, go_bin, go_un, go_var, go_c, go_test, go_andT, go_orT, go_notT, go_yes, go_andV, go_if, go_nil, go_cons, go_tup, go_lst, go_lstC, go_cb, go_call, go_meth, go_noPart, go_part, go_sl, go_get, go_retN, go_lc, go_dc, go_iter, go_enum, go_rng, go_rng1, go_rng2, go_rng3, go_disp, go_pnil, go_pcons, go_bdT, go_bdF, go_ok, go_nx, go_rt, go_addI, go_addS, go_addT, go_addL, go_subI, go_mulI, go_mulL, go_modI, go_fdivI, go_powI, go_ltI, go_leI, go_gtI, go_geI, go_eqI, go_eqS, go_neI, go_neS, go_ixF, go_ixT, go_ixS, go_ixD, go_slT, go_slF, go_slR, go_slS, go_revF, go_revCF, go_revAT, go_revAL, List.getElem?_cons_zero, List.getElem?_cons_succ, List.set_cons_zero, List.set_cons_succ, List.length_cons, List.length_nil, D.int.injEq, D.bl.injEq, D.str.injEq, Option.some.injEq, exists_eq_left', go_listF, go_listT, go_tupleF, go_tupleT, go_lenF, go_lenT, go_lenS, go_isiS, go_isiI, go_intI, go_intB, go_maxI, it_lst, it_tupD, it_strD, en_lst, en_tup, fr_gN, wipeD]
            exact ⟨by trivial, by trivial, fun z => nomatch z⟩
        rw [strs_od]
        have tl : (txO s).length ≤ 3 := Nat.le_trans (strs_len s) gs.len
        refine ⟨decide_eq_true (by rw [List.length_map, List.length_map]; exact Nat.le_trans (Nat.add_le_add (show us.length ≤ 200 by omega) tl) (by decide)), r, us ++ txO s, some (stD s), rfl, hr1, eh2, by rw [List.length_append]; omega, rfl, ?_⟩
        rw [List.map_append]
        rfl
      · next hy =>
        rw [if_neg (fun z => hy (decide_eq_true z))] at eh2
        rw [go_next]
        exact ⟨r, us, _, rfl, hr1, eh2, by omega, rfl, rfl⟩
  · rintro env M' ⟨r, us, y, er, hr, eh, ul, rfl, rfl⟩
    refine ⟨trivial, ?_⟩
    cases r with
    | cons s r => cases er
    | nil =>
      have eu : us = wantR ws ss.reverse := eh
      rw [go_ret]
      simp only [go_bin, go_un, go_var, go_c, go_test, go_andT, go_orT, go_notT, go_yes, go_andV, go_if, go_nil, go_cons, go_tup, go_lst, go_lstC, go_cb, go_call, go_meth, go_noPart, go_part, go_sl, go_get, go_retN, go_lc, go_dc, go_iter, go_enum, go_rng, go_rng1, go_rng2, go_rng3, go_disp, go_pnil, go_pcons, go_bdT, go_bdF, go_ok, go_nx, go_rt, go_addI, go_addS, go_addT, go_addL, go_subI, go_mulI, go_mulL, go_modI, go_fdivI, go_powI, go_ltI, go_leI, go_gtI, go_geI, go_eqI, go_eqS, go_neI, go_neS, go_ixF, go_ixT, go_ixS, go_ixD, go_slT, go_slF, go_slR, go_slS, go_revF, go_revCF, go_revAT, go_revAL, List.getElem?_cons_zero, List.getElem?_cons_succ, List.set_cons_zero, List.set_cons_succ, List.length_cons, List.length_nil, D.int.injEq, D.bl.injEq, D.str.injEq, Option.some.injEq, exists_eq_left', go_listF, go_listT, go_tupleF, go_tupleT, go_lenF, go_lenT, go_lenS, go_isiS, go_isiI, go_intI, go_intB, go_maxI, it_lst, it_tupD, it_strD, en_lst, en_tup, fr_gN, wipeD]
      refine go_compP (fun d => match d with | .tup [_, .tup (_ :: .str n :: _)] => decide (n ∈ us) | _ => false) (fun d => match d with | .tup [k, _] => k | d => d) trivial _ (by rw [numbered_len, List.length_map]; have := g.le; omega) ?_ ?_
      · intro d hd
        obtain ⟨i, hi⟩ := List.mem_iff_getElem?.mp hd
        obtain ⟨e, he, rfl⟩ := numbered_at hi
        rw [List.getElem?_map] at he
        obtain ⟨s, hs, rfl⟩ := Option.map_eq_some_iff.mp he
        refine ⟨_, rfl, ?_⟩
        simp only [go_bin, go_un, go_var, go_c, go_test, go_andT, go_orT, go_notT, go_yes, go_andV, go_if, go_nil, go_cons, go_tup, go_lst, go_lstC, go_cb, go_call, go_meth, go_noPart, go_part, go_sl, go_get, go_retN, go_lc, go_dc, go_iter, go_enum, go_rng, go_rng1, go_rng2, go_rng3, go_disp, go_pnil, go_pcons, go_bdT, go_bdF, go_ok, go_nx, go_rt, go_addI, go_addS, go_addT, go_addL, go_subI, go_mulI, go_mulL, go_modI, go_fdivI, go_powI, go_ltI, go_leI, go_gtI, go_geI, go_eqI, go_eqS, go_neI, go_neS, go_ixF, go_ixT, go_ixS, go_ixD, go_slT, go_slF, go_slR, go_slS, go_revF, go_revCF, go_revAT, go_revAL, List.getElem?_cons_zero, List.getElem?_cons_succ, List.set_cons_zero, List.set_cons_succ, List.length_cons, List.length_nil, D.int.injEq, D.bl.injEq, D.str.injEq, Option.some.injEq, exists_eq_left', go_listF, go_listT, go_tupleF, go_tupleT, go_lenF, go_lenT, go_lenS, go_isiS, go_isiI, go_intI, go_intB, go_maxI, it_lst, it_tupD, it_strD, en_lst, en_tup, fr_gN, wipeD, stD, at_1, go_in, in_lst]
        exact ⟨by trivial, by trivial, fun _ => ⟨by trivial, by trivial⟩⟩
      have idx : ∀ (l : List Stp) (k : Nat), ((nf k (l.map stD)).filter fun d => match d with | .tup [_, .tup (_ :: .str n :: _)] => decide (n ∈ us) | _ => false).map (fun d => match d with | .tup [k, _] => k | d => d) = inD_ (idxF us k l) := by
        intro l
        induction l with
        | nil => exact fun _ => rfl
        | cons s l ih =>
          intro k
          rw [List.map_cons, nf_cons, List.filter_cons]
          show (if decide (s.n ∈ us) = true then _ else _ : List D).map _ = inD_ (if s.n ∈ us then k :: idxF us (k + 1) l else idxF us (k + 1) l)
          by_cases h : s.n ∈ us
          · rw [if_pos (decide_eq_true h), if_pos h, List.map_cons, ih (k + 1)]
            rfl
          · rw [if_neg (fun z => h (of_decide_eq_true z)), if_neg h, ih (k + 1)]
      rw [nf_0, idx ss 0, eu]
      exact go_fin_same (frz_low (low_intsN _ _)) q
/-! the program's -/
theorem merge_any : ∀ (more kvs : List (Key × D)) (k : Key), ((mergeD kvs more).any fun kv => decide (kv.1 = k)) = ((kvs.any fun kv => decide (kv.1 = k)) || more.any fun kv => decide (kv.1 = k))
  | [], kvs, k => by
    show _ = (_ || false)
    rw [Bool.or_false]
    rfl
  | m :: more, kvs, k => by
    show ((mergeD (putD kvs m.1 m.2) more).any fun kv => decide (kv.1 = k)) = _
    rw [merge_any more, put_any, List.any_cons, Bool.or_assoc]
theorem merge_len : ∀ (more kvs : List (Key × D)), (mergeD kvs more).length ≤ kvs.length + more.length
  | [], kvs => Nat.le_refl _
  | m :: more, kvs => by
    have h1 := merge_len more (putD kvs m.1 m.2)
    have h2 := put_len kvs m.1 m.2
    show (mergeD (putD kvs m.1 m.2) more).length ≤ _
    rw [List.length_cons]
    omega
theorem HasK.merge {kvs more : List (Key × D)} {ns ms : List Str} (h : HasK kvs ns) (h' : HasK more ms) : HasK (mergeD kvs more) (ns ++ ms) := fun x => by
  rw [valD_some, merge_any, ← valD_some, ← valD_some, h x, h' x]
  simp
theorem go_true_dict {kp : Bool} {env : Ly.Env} {M : Mem} {ws : List Str} {v : Nat} {Q : List (Key × D) → Mem → Prop} (hv : v < env.length) (hl : ws.length ≤ 1000) (q : ∀ kvs, HasK kvs ws → kvs.length ≤ ws.length → Q kvs M) :
    Go (compD (gN v) mYes (mVar v) (mC (.bl true)) (fun _ => True) env (ws.map .str) [] M) Q := by
  refine go_compD (fun rem acc M' => M' = M ∧ ∃ pre post : List Str, ws = pre ++ post ∧ rem = post.map .str ∧ HasK acc pre ∧ acc.length ≤ pre.length) ?_ ?_ _ _ _ ⟨rfl, [], ws, rfl, rfl, fun x => rfl, Nat.le_refl _⟩
  · rintro d rem acc M' ⟨rfl, pre, post, ep, er, hk, al⟩
    cases post with
    | nil => cases er
    | cons x post =>
      cases er
      refine ⟨trivial, _, rfl, ?_⟩
      rw [go_yes, if_pos rfl, go_var, List.getElem?_set_self hv]
      simp only [go_c]
      have pl : pre.length < 1000 := by
        have := congrArg List.length ep
        rw [List.length_append, List.length_cons] at this
        omega
      refine ⟨_, rfl, by omega, trivial, pre ++ [x], post, by rw [ep]; simp, rfl, hk.put x _, ?_⟩
      have := put_len acc (.inr x) (.bl true)
      rw [List.length_append, List.length_singleton]
      omega
  · rintro acc M' ⟨rfl, pre, post, ep, er, hk, al⟩
    refine ⟨trivial, ?_⟩
    cases post with
    | cons x post => cases er
    | nil =>
      rw [List.append_nil] at ep
      subst ep
      exact q acc hk al
def descL (m : Nat) : List D := (List.range m).map fun n => .int ((m : Int) - 1 + (n : Nat) * -1)
theorem descL_succ (m : Nat) : descL (m + 1) = .int (m : Int) :: descL m := by
  unfold descL
  rw [List.range_succ_eq_map, List.map_cons, List.map_map]
  congr 1
  · congr 1
    show ((m + 1 : Nat) : Int) - 1 + ((0 : Nat) : Int) * -1 = _
    omega
  · refine List.map_congr_left fun n _ => ?_
    show D.int (((m + 1 : Nat) : Int) - 1 + ((n + 1 : Nat) : Int) * -1) = _
    congr 1
    omega
theorem needed_ok {M : Mem} {xs : List Str} {ss : List Stp} {ws : List Str} {Q : D → Mem → Prop} (g : Good xs ss) (hw : ws.length ≤ 100) (q : Q (.tup (inD_ (needR ws ss.reverse))) M) : Go (f_needed [.tup (ss.map stD), .tup (ws.map .str)] M) Q := by
  rw [f_needed, go_callD, show startD 10 [D.tup (ss.map stD), .tup (ws.map .str)] = [some (.tup (ss.map stD)), some (.tup (ws.map .str)), none, none, none, none, none, none, none, none] from rfl, m_needed]
  rw [go_seq, go_set]
  simp only [go_bin, go_un, go_var, go_c, go_test, go_andT, go_orT, go_notT, go_yes, go_andV, go_if, go_nil, go_cons, go_tup, go_lst, go_lstC, go_cb, go_call, go_meth, go_noPart, go_part, go_sl, go_get, go_retN, go_lc, go_dc, go_iter, go_enum, go_rng, go_rng1, go_rng2, go_rng3, go_disp, go_pnil, go_pcons, go_bdT, go_bdF, go_ok, go_nx, go_rt, go_addI, go_addS, go_addT, go_addL, go_subI, go_mulI, go_mulL, go_modI, go_fdivI, go_powI, go_ltI, go_leI, go_gtI, go_geI, go_eqI, go_eqS, go_neI, go_neS, go_ixF, go_ixT, go_ixS, go_ixD, go_slT, go_slF, go_slR, go_slS, go_revF, go_revCF, go_revAT, go_revAL, List.getElem?_cons_zero, List.getElem?_cons_succ, List.set_cons_zero, List.set_cons_succ, List.length_cons, List.length_nil, D.int.injEq, D.bl.injEq, D.str.injEq, Option.some.injEq, exists_eq_left', go_listF, go_listT, go_tupleF, go_tupleT, go_lenF, go_lenT, go_lenS, go_isiS, go_isiI, go_intI, go_intB, go_maxI, it_lst, it_tupD, it_strD, en_lst, en_tup, fr_gN, wipeD]
  refine go_true_dict (kp := true) (by show 8 < 10; decide) (by omega) fun kvs hk kl => ?_
  rw [go_seq, go_set, go_lstC, go_nil]
  refine ⟨by decide, ?_⟩
  rw [go_seq, go_for]
  simp only [go_bin, go_un, go_var, go_c, go_test, go_andT, go_orT, go_notT, go_yes, go_andV, go_if, go_nil, go_cons, go_tup, go_lst, go_lstC, go_cb, go_call, go_meth, go_noPart, go_part, go_sl, go_get, go_retN, go_lc, go_dc, go_iter, go_enum, go_rng, go_rng1, go_rng2, go_rng3, go_disp, go_pnil, go_pcons, go_bdT, go_bdF, go_ok, go_nx, go_rt, go_addI, go_addS, go_addT, go_addL, go_subI, go_mulI, go_mulL, go_modI, go_fdivI, go_powI, go_ltI, go_leI, go_gtI, go_geI, go_eqI, go_eqS, go_neI, go_neS, go_ixF, go_ixT, go_ixS, go_ixD, go_slT, go_slF, go_slR, go_slS, go_revF, go_revCF, go_revAT, go_revAL, List.getElem?_cons_zero, List.getElem?_cons_succ, List.set_cons_zero, List.set_cons_succ, List.length_cons, List.length_nil, D.int.injEq, D.bl.injEq, D.str.injEq, Option.some.injEq, exists_eq_left', go_listF, go_listT, go_tupleF, go_tupleT, go_lenF, go_lenT, go_lenS, go_isiS, go_isiI, go_intI, go_intB, go_maxI, it_lst, it_tupD, it_strD, en_lst, en_tup, fr_gN, wipeD, List.length_append, List.length_singleton, List.length_map]
  have sl := g.le
  refine ⟨⟨rngOk_of (by omega) (by omega), rngOk_of (by decide) (by decide), trivial⟩, ?_⟩
  have ed : ((List.range ((ss.length : Int) - 1 - -1).toNat).map fun n => D.int ((ss.length : Int) - 1 + (n : Nat) * -1)) = descL ss.length := by
    rw [show ((ss.length : Int) - 1 - -1).toNat = ss.length by omega]
    rfl
  rw [ed]
  refine go_loop (fun rem env M' => ∃ (r : List Stp) (don : List Stp) (us : List Str) (kvs : List (Key × D)) (acc : List Nat) (a b c e f h : Option D), ss = r.reverse ++ don ∧ rem = descL r.length ∧ needR us r ++ acc.reverse = needR ws ss.reverse ∧ HasK kvs us ∧ kvs.length + 3 * r.length ≤ 200 ∧ acc.length + r.length ≤ 16 ∧ M' = M ++ [.dic kvs] ++ [.lst (inD_ acc)] ∧
    env = [some (.tup (ss.map stD)), some (.tup (ws.map .str)), some (.ref M.length), some (.ref (M.length + 1)), a, b, c, e, f, h]) ?_ ?_ _ _ _ ⟨ss.reverse, [], ws, kvs, [], none, none, none, none, none, none, by simp, by rw [List.length_reverse], by simp, hk, by rw [List.length_reverse]; omega, by rw [List.length_reverse]; simpa using sl, rfl, rfl⟩
  · rintro d rem env M' ⟨r, don, us, kvs, acc, a, b, c, e, f, h, es, er, eh, hk, kl, al, rfl, rfl⟩
    cases r with
    | nil => cases er
    | cons s r =>
      rw [List.length_cons, descL_succ] at er
      cases er
      have hs1 : s ∈ ss := by rw [es]; simp
      have gs := g.ok.mem hs1
      rw [List.length_cons] at kl al
      have es2 : ss = r.reverse ++ (s :: don) := by rw [es]; simp
      have ai : atI (ss.map stD) (r.length : Int) = some (stD s) := by
        refine Ly.atI_nat ?_
        rw [List.getElem?_map, es2, List.getElem?_append_right (by rw [List.length_reverse]; exact Nat.le_refl _), List.length_reverse, Nat.sub_self]
        rfl
      refine ⟨trivial, _, rfl, ?_⟩
      rw [go_seq, go_asg]
      simp only [go_bin, go_un, go_var, go_c, go_test, go_andT, go_orT, go_notT, go_yes, go_andV, go_if, go_nil, go_cons, go_tup, go_lst, go_lstC, go_cb, go_call, go_meth, go_noPart, go_part, go_sl, go_get, go_retN, go_lc, go_dc, go_iter, go_enum, go_rng, go_rng1, go_rng2, go_rng3, go_disp, go_pnil, go_pcons, go_bdT, go_bdF, go_ok, go_nx, go_rt, go_addI, go_addS, go_addT, go_addL, go_subI, go_mulI, go_mulL, go_modI, go_fdivI, go_powI, go_ltI, go_leI, go_gtI, go_geI, go_eqI, go_eqS, go_neI, go_neS, go_ixF, go_ixT, go_ixS, go_ixD, go_slT, go_slF, go_slR, go_slS, go_revF, go_revCF, go_revAT, go_revAL, List.getElem?_cons_zero, List.getElem?_cons_succ, List.set_cons_zero, List.set_cons_succ, List.length_cons, List.length_nil, D.int.injEq, D.bl.injEq, D.str.injEq, Option.some.injEq, exists_eq_left', go_listF, go_listT, go_tupleF, go_tupleT, go_lenF, go_lenT, go_lenS, go_isiS, go_isiI, go_intI, go_intB, go_maxI, it_lst, it_tupD, it_strD, en_lst, en_tup, fr_gN, wipeD, ai]
      refine ⟨_, star_ok s _ 5 6 7 gs.len, ?_⟩
      rw [go_ifS]
      simp only [go_bin, go_un, go_var, go_c, go_test, go_andT, go_orT, go_notT, go_yes, go_andV, go_if, go_nil, go_cons, go_tup, go_lst, go_lstC, go_cb, go_call, go_meth, go_noPart, go_part, go_sl, go_get, go_retN, go_lc, go_dc, go_iter, go_enum, go_rng, go_rng1, go_rng2, go_rng3, go_disp, go_pnil, go_pcons, go_bdT, go_bdF, go_ok, go_nx, go_rt, go_addI, go_addS, go_addT, go_addL, go_subI, go_mulI, go_mulL, go_modI, go_fdivI, go_powI, go_ltI, go_leI, go_gtI, go_geI, go_eqI, go_eqS, go_neI, go_neS, go_ixF, go_ixT, go_ixS, go_ixD, go_slT, go_slF, go_slR, go_slS, go_revF, go_revCF, go_revAT, go_revAL, List.getElem?_cons_zero, List.getElem?_cons_succ, List.set_cons_zero, List.set_cons_succ, List.length_cons, List.length_nil, D.int.injEq, D.bl.injEq, D.str.injEq, Option.some.injEq, exists_eq_left', go_listF, go_listT, go_tupleF, go_tupleT, go_lenF, go_lenT, go_lenS, go_isiS, go_isiI, go_intI, go_intB, go_maxI, it_lst, it_tupD, it_strD, en_lst, en_tup, fr_gN, wipeD, go_in, in_dict (at_a M _ _) hk]
      have eh2 : (if s.n ∈ us then needR (us ++ txO s) r ++ [r.length] else needR us r) ++ acc.reverse = needR ws ss.reverse := eh
      split
      · next hy =>
        rw [if_pos (of_decide_eq_true hy)] at eh2
        rw [go_seq, go_drop]
        simp only [go_bin, go_un, go_var, go_c, go_test, go_andT, go_orT, go_notT, go_yes, go_andV, go_if, go_nil, go_cons, go_tup, go_lst, go_lstC, go_cb, go_call, go_meth, go_noPart, go_part, go_sl, go_get, go_retN, go_lc, go_dc, go_iter, go_enum, go_rng, go_rng1, go_rng2, go_rng3, go_disp, go_pnil, go_pcons, go_bdT, go_bdF, go_ok, go_nx, go_rt, go_addI, go_addS, go_addT, go_addL, go_subI, go_mulI, go_mulL, go_modI, go_fdivI, go_powI, go_ltI, go_leI, go_gtI, go_geI, go_eqI, go_eqS, go_neI, go_neS, go_ixF, go_ixT, go_ixS, go_ixD, go_slT, go_slF, go_slR, go_slS, go_revF, go_revCF, go_revAT, go_revAL, List.getElem?_cons_zero, List.getElem?_cons_succ, List.set_cons_zero, List.set_cons_succ, List.length_cons, List.length_nil, D.int.injEq, D.bl.injEq, D.str.injEq, Option.some.injEq, exists_eq_left', go_listF, go_listT, go_tupleF, go_tupleT, go_lenF, go_lenT, go_lenS, go_isiS, go_isiI, go_intI, go_intB, go_maxI, it_lst, it_tupD, it_strD, en_lst, en_tup, fr_gN, wipeD, isLst_ref (at_b M _ _), go_append (at_b M _ _), set_b, true_and]
        refine ⟨by unfold inD_; rw [List.length_map]; omega, ?_⟩
        rw [go_drop]
        simp only [go_bin, go_un, go_var, go_c, go_test, go_andT, go_orT, go_notT, go_yes, go_andV, go_if, go_nil, go_cons, go_tup, go_lst, go_lstC, go_cb, go_call, go_meth, go_noPart, go_part, go_sl, go_get, go_retN, go_lc, go_dc, go_iter, go_enum, go_rng, go_rng1, go_rng2, go_rng3, go_disp, go_pnil, go_pcons, go_bdT, go_bdF, go_ok, go_nx, go_rt, go_addI, go_addS, go_addT, go_addL, go_subI, go_mulI, go_mulL, go_modI, go_fdivI, go_powI, go_ltI, go_leI, go_gtI, go_geI, go_eqI, go_eqS, go_neI, go_neS, go_ixF, go_ixT, go_ixS, go_ixD, go_slT, go_slF, go_slR, go_slS, go_revF, go_revCF, go_revAT, go_revAL, List.getElem?_cons_zero, List.getElem?_cons_succ, List.set_cons_zero, List.set_cons_succ, List.length_cons, List.length_nil, D.int.injEq, D.bl.injEq, D.str.injEq, Option.some.injEq, exists_eq_left', go_listF, go_listT, go_tupleF, go_tupleT, go_lenF, go_lenT, go_lenS, go_isiS, go_isiI, go_intI, go_intB, go_maxI, it_lst, it_tupD, it_strD, en_lst, en_tup, fr_gN, wipeD, ai, isDic_ref (at_a M _ _), true_and]
        refine names_in_ok gs.len ?_
        refine ⟨_, rfl, ?_⟩
        have tl : (txO s).length ≤ 3 := Nat.le_trans (strs_len s) gs.len
        refine go_true_dict (kp := false) (by show 9 < 10; decide) (by omega) fun more hm ml => ?_
        rw [go_update (at_a M _ _), set_a]
        have mlen := merge_len more kvs
        refine ⟨decide_eq_true (by omega), r, s :: don, us ++ txO s, mergeD kvs more, acc ++ [r.length], _, _, _, _, _, _, es2, rfl, ?_, hk.merge hm, by omega, by rw [List.length_append, List.length_singleton]; omega, ?_, rfl⟩
        · rw [← eh2, List.reverse_append, List.append_assoc]
          rfl
        · unfold inD_
          rw [List.map_append]
          rfl
      · next hy =>
        rw [if_neg (fun z => hy (decide_eq_true z))] at eh2
        rw [go_next]
        exact ⟨r, s :: don, us, kvs, acc, _, _, _, _, _, _, es2, rfl, eh2, hk, by omega, by omega, rfl, rfl⟩
  · rintro env M' ⟨r, don, us, kvs, acc, a, b, c, e, f, h, es, er, eh, hk, kl, al, rfl, rfl⟩
    refine ⟨trivial, ?_⟩
    cases r with
    | cons s r =>
      rw [List.length_cons, descL_succ] at er
      cases er
    | nil =>
      rw [go_ret]
      simp only [go_bin, go_un, go_var, go_c, go_test, go_andT, go_orT, go_notT, go_yes, go_andV, go_if, go_nil, go_cons, go_tup, go_lst, go_lstC, go_cb, go_call, go_meth, go_noPart, go_part, go_sl, go_get, go_retN, go_lc, go_dc, go_iter, go_enum, go_rng, go_rng1, go_rng2, go_rng3, go_disp, go_pnil, go_pcons, go_bdT, go_bdF, go_ok, go_nx, go_rt, go_addI, go_addS, go_addT, go_addL, go_subI, go_mulI, go_mulL, go_modI, go_fdivI, go_powI, go_ltI, go_leI, go_gtI, go_geI, go_eqI, go_eqS, go_neI, go_neS, go_ixF, go_ixT, go_ixS, go_ixD, go_slT, go_slF, go_slR, go_slS, go_revF, go_revCF, go_revAT, go_revAL, List.getElem?_cons_zero, List.getElem?_cons_succ, List.set_cons_zero, List.set_cons_succ, List.length_cons, List.length_nil, D.int.injEq, D.bl.injEq, D.str.injEq, Option.some.injEq, exists_eq_left', go_listF, go_listT, go_tupleF, go_tupleT, go_lenF, go_lenT, go_lenS, go_isiS, go_isiI, go_intI, go_intB, go_maxI, it_lst, it_tupD, it_strD, en_lst, en_tup, fr_gN, wipeD, go_revAC (at_b M _ _)]
      have : (inD_ acc).reverse = inD_ (needR ws ss.reverse) := by
        rw [← eh]
        unfold inD_
        rw [← List.map_reverse]
        rfl
      rw [this]
      exact go_fin_app2 (frz_low (low_intsN _ _)) q
end Wk17

namespace Wk17
open PySem PySem.Spec PyProof.Rows L2 Ly
/-! ### repr -/
def shI (l : List Nat) : Str := (PyData.tuple (l.map fun (k : Nat) => PyData.int (k : Int))).shown
theorem pd_ints : ∀ l : List Nat, pdAll (inD_ l) = some (l.map fun (k : Nat) => PyData.int (k : Int))
  | [] => rfl
  | k :: l => by
    show ((pdAll (inD_ l)).map fun ps => PyData.int (k : Int) :: ps) = _
    rw [pd_ints l]
    rfl
theorem sh_ints : ∀ l : List Nat, (∀ k ∈ l, k < 1000) → PyData.showableAll (l.map fun (k : Nat) => PyData.int (k : Int)) = true ∧ PyData.depthAll (l.map fun (k : Nat) => PyData.int (k : Int)) = 0 ∧ PyData.leavesShortAll 13 (l.map fun (k : Nat) => PyData.int (k : Int)) = true ∧ PyData.weightAll (l.map fun (k : Nat) => PyData.int (k : Int)) ≤ 12 * l.length
  | [], _ => ⟨rfl, rfl, rfl, Nat.le_refl _⟩
  | k :: l, h => by
    obtain ⟨h1, h2, h3, h4⟩ := sh_ints l fun x hx => h x (List.mem_cons_of_mem _ hx)
    have hk := h k List.mem_cons_self
    have lg : k.log2 ≤ 10 := by
      by_cases z : k = 0
      · rw [z]
        decide
      · exact Nat.le_of_lt ((Nat.log2_lt z).mpr (by omega))
    refine ⟨?_, ?_, ?_, ?_⟩
    · show (decide ((k : Int).natAbs.log2 < 1920) && _) = true
      rw [h1, decide_eq_true (by rw [Int.natAbs_natCast]; omega)]
      rfl
    · show max 0 _ = 0
      rw [h2]
      rfl
    · show (decide ((PyData.shown (.int (k : Int))).length ≤ 13) && _) = true
      rw [h3, decide_eq_true (PyData.shown_int_le (by rw [Int.natAbs_natCast]; omega))]
      rfl
    · show (if ((k : Int) == 0) = true then 0 else (k : Int).natAbs.log2 + 1) + 1 + _ ≤ _
      rw [Int.natAbs_natCast, List.length_cons]
      split <;> omega
theorem go_repr {M : Mem} {d : D} {p : PyData} {Q : D → Mem → Prop} (e : pdM M d = some p) (h1 : p.showable = true) (h2 : p.depth ≤ 60) (h3 : p.leavesShort 13 = true) (h4 : p.weight ≤ 10000) : Go (fRepr [d] M) Q = Q (.str p.shown) M := by
  have len := PyData.shown_le 13 (by decide) p h3
  have e2 : fRepr [d] M = .ok (.str p.shown) M := by
    have c : (p.showable && decide (p.depth ≤ 60) && decide (p.shown.length ≤ 1000000)) = true := by
      rw [h1, decide_eq_true h2, decide_eq_true (by omega)]
      rfl
    unfold fRepr
    simp only [e, c, if_true]
  rw [e2]
  rfl
theorem go_reprI {M : Mem} {l : List Nat} {Q : D → Mem → Prop} (h : ∀ k ∈ l, k < 1000) (hl : l.length ≤ 100) : Go (fRepr [.tup (inD_ l)] M) Q = Q (.str (shI l)) M := by
  obtain ⟨h1, h2, h3, h4⟩ := sh_ints l h
  refine go_repr (p := .tuple (l.map fun (k : Nat) => PyData.int (k : Int))) ?_ h1 ?_ h3 ?_
  · show (pdAll (inD_ l)).map PyData.tuple = _
    rw [pd_ints]
    rfl
  · show PyData.depthAll _ + 1 ≤ 60
    rw [h2]
    decide
  · show PyData.weightAll _ ≤ 10000
    omega
def pdO : O → PyData
  | .s x => .str x
  | .i k => .int k
def pdS (s : Stp) : PyData := .tuple (.str s.w :: .str s.n :: s.os.map pdO)
def shS (ss : List Stp) : Str := (PyData.tuple (ss.map pdS)).shown
theorem pd_os : ∀ os : List O, pdAll (os.map od) = some (os.map pdO)
  | [] => rfl
  | .s x :: os => by
    show ((pdAll (os.map od)).map fun ps => PyData.str x :: ps) = _
    rw [pd_os os]
    rfl
  | .i k :: os => by
    show ((pdAll (os.map od)).map fun ps => PyData.int k :: ps) = _
    rw [pd_os os]
    rfl
theorem nm_wt {n : Nat} {x : Str} (h : Nm n x) : PyData.leavesShort 13 (.str x) = true ∧ PyData.weight (.str x) ≤ n := by
  refine ⟨?_, h.1⟩
  show (x.cps.toList.all fun c => decide (c < 16 ^ 8)) = true
  rw [List.all_eq_true]
  intro c hc
  have := h.2 c hc
  exact decide_eq_true (by omega)
theorem pd_step (s : Stp) : pdOf (stD s) = some (pdS s) := by
  unfold stD
  show (pdAll (.str s.w :: .str s.n :: s.os.map od)).map PyData.tuple = _
  have : pdAll (.str s.w :: .str s.n :: s.os.map od) = some (.str s.w :: .str s.n :: s.os.map pdO) := by
    show ((pdAll (.str s.n :: s.os.map od)).map fun ps => PyData.str s.w :: ps) = _
    rw [show pdAll (.str s.n :: s.os.map od) = (pdAll (s.os.map od)).map (fun ps => PyData.str s.n :: ps) from rfl, pd_os]
    rfl
  rw [this]
  rfl
theorem sh_os : ∀ os : List O, (∀ x, O.s x ∈ os → Nm 32 x) → (∀ k, O.i k ∈ os → 0 ≤ k ∧ k ≤ 10) → PyData.showableAll (os.map pdO) = true ∧ PyData.depthAll (os.map pdO) = 0 ∧ PyData.leavesShortAll 13 (os.map pdO) = true ∧ PyData.weightAll (os.map pdO) ≤ 33 * os.length
  | [], _, _ => ⟨rfl, rfl, rfl, Nat.le_refl _⟩
  | .s x :: os, hs, hi => by
    obtain ⟨h1, h2, h3, h4⟩ := sh_os os (fun y hy => hs y (List.mem_cons_of_mem _ hy)) (fun k hk => hi k (List.mem_cons_of_mem _ hk))
    obtain ⟨w1, w2⟩ := nm_wt (hs x List.mem_cons_self)
    refine ⟨?_, ?_, ?_, ?_⟩
    · show (true && _) = true
      rw [h1]
      rfl
    · show max 0 _ = 0
      rw [h2]
      rfl
    · show (PyData.leavesShort 13 (.str x) && _) = true
      rw [w1, h3]
      rfl
    · show PyData.weight (.str x) + 1 + _ ≤ _
      rw [List.length_cons]
      omega
  | .i k :: os, hs, hi => by
    obtain ⟨h1, h2, h3, h4⟩ := sh_os os (fun y hy => hs y (List.mem_cons_of_mem _ hy)) (fun k hk => hi k (List.mem_cons_of_mem _ hk))
    obtain ⟨k0, k1⟩ := hi k List.mem_cons_self
    have lg : k.natAbs.log2 ≤ 10 := by
      by_cases z : k.natAbs = 0
      · rw [z]
        decide
      · exact Nat.le_of_lt ((Nat.log2_lt z).mpr (by omega))
    refine ⟨?_, ?_, ?_, ?_⟩
    · show (decide (k.natAbs.log2 < 1920) && _) = true
      rw [h1, decide_eq_true (by omega)]
      rfl
    · show max 0 _ = 0
      rw [h2]
      rfl
    · show (decide ((PyData.shown (.int k)).length ≤ 13) && _) = true
      rw [h3, decide_eq_true (PyData.shown_int_le (by omega))]
      rfl
    · show (if (k == 0) = true then 0 else k.natAbs.log2 + 1) + 1 + _ ≤ _
      rw [List.length_cons]
      split <;> omega
theorem sh_steps : ∀ ss : List Stp, (∀ s ∈ ss, StepOk (ss.map (·.n)) s ∨ True) → (∀ s ∈ ss, Nm 32 s.n ∧ Nm 32 s.w ∧ s.os.length ≤ 3 ∧ (∀ x, O.s x ∈ s.os → Nm 32 x) ∧ ∀ k, O.i k ∈ s.os → 0 ≤ k ∧ k ≤ 10) →
    pdAll (ss.map stD) = some (ss.map pdS) ∧ PyData.showableAll (ss.map pdS) = true ∧ PyData.depthAll (ss.map pdS) ≤ 1 ∧ PyData.leavesShortAll 13 (ss.map pdS) = true ∧ PyData.weightAll (ss.map pdS) ≤ 200 * ss.length
  | [], _, _ => ⟨rfl, rfl, Nat.zero_le _, rfl, Nat.le_refl _⟩
  | s :: ss, _, h => by
    obtain ⟨h0, h1, h2, h3, h4⟩ := sh_steps ss (fun _ _ => .inr trivial) fun t ht => h t (List.mem_cons_of_mem _ ht)
    obtain ⟨n1, n2, n3, n4, n5⟩ := h s List.mem_cons_self
    obtain ⟨o1, o2, o3, o4⟩ := sh_os s.os n4 n5
    obtain ⟨a1, a2⟩ := nm_wt n1
    obtain ⟨b1, b2⟩ := nm_wt n2
    refine ⟨?_, ?_, ?_, ?_, ?_⟩
    · show ((pdOf (stD s)).bind fun p => (pdAll (ss.map stD)).map fun ps => p :: ps) = _
      rw [pd_step, h0]
      rfl
    · show ((true && (true && PyData.showableAll (s.os.map pdO))) && _) = true
      rw [o1, h1]
      rfl
    · show max (max 0 (max 0 (PyData.depthAll (s.os.map pdO))) + 1) _ ≤ 1
      rw [o2]
      exact Nat.max_le.mpr ⟨by decide, h2⟩
    · show ((PyData.leavesShort 13 (.str s.w) && (PyData.leavesShort 13 (.str s.n) && PyData.leavesShortAll 13 (s.os.map pdO))) && _) = true
      rw [a1, b1, o3, h3]
      rfl
    · show (PyData.weight (.str s.w) + 1 + (PyData.weight (.str s.n) + 1 + PyData.weightAll (s.os.map pdO))) + 1 + _ ≤ _
      rw [List.length_cons]
      omega
theorem go_reprS {M : Mem} {xs : List Str} {ss : List Stp} {Q : D → Mem → Prop} (g : Good xs ss) : Go (fRepr [.tup (ss.map stD)] M) Q = Q (.str (shS ss)) M := by
  have nms := g.ok.nms
  obtain ⟨h0, h1, h2, h3, h4⟩ := sh_steps ss (fun _ _ => .inr trivial) fun s hs => ⟨(g.ok.mem hs).nm, (g.ok.mem hs).wm, (g.ok.mem hs).len, fun x hx => nms x ((g.ok.mem hs).str x hx), (g.ok.mem hs).int⟩
  have := g.le
  refine go_repr (p := .tuple (ss.map pdS)) ?_ h1 ?_ h3 ?_
  · show (pdAll (ss.map stD)).map PyData.tuple = _
    rw [h0]
    rfl
  · show PyData.depthAll _ + 1 ≤ 60
    omega
  · show PyData.weightAll _ ≤ 10000
    omega
theorem hang_small : ∀ (ss : List Stp) (ns : List Str) (k : Nat), (∀ j ∈ hangF ns k ss, j < k + ss.length) ∧ (hangF ns k ss).length ≤ ss.length
  | [], ns, k => ⟨nofun, Nat.le_refl _⟩
  | s :: ss, ns, k => by
    rw [hangF_cons, List.length_cons]
    split
    · obtain ⟨h1, h2⟩ := hang_small ss (ns ++ [s.n]) (k + 1)
      refine ⟨fun j hj => ?_, by rw [List.length_cons]; omega⟩
      rcases List.mem_cons.mp hj with rfl | hj
      · omega
      · have := h1 j hj
        omega
    · obtain ⟨h1, h2⟩ := hang_small ss ns (k + 1)
      exact ⟨fun j hj => by have := h1 j hj; omega, by omega⟩
theorem need_small : ∀ (r : List Stp) (ws : List Str), (∀ j ∈ needR ws r, j < r.length) ∧ (needR ws r).length ≤ r.length
  | [], ws => ⟨nofun, Nat.le_refl _⟩
  | s :: r, ws => by
    rw [show needR ws (s :: r) = if s.n ∈ ws then needR (ws ++ txO s) r ++ [r.length] else needR ws r from rfl, List.length_cons]
    split
    · obtain ⟨h1, h2⟩ := need_small r (ws ++ txO s)
      refine ⟨fun j hj => ?_, by rw [List.length_append, List.length_singleton]; omega⟩
      rcases List.mem_append.mp hj with hj | hj
      · have := h1 j hj
        omega
      · rw [List.mem_singleton.mp hj]
        omega
    · obtain ⟨h1, h2⟩ := need_small r ws
      exact ⟨fun j hj => by have := h1 j hj; omega, by omega⟩
theorem need_none : ∀ r : List Stp, needR [] r = []
  | [] => rfl
  | s :: r => by
    rw [show needR [] (s :: r) = if s.n ∈ ([] : List Str) then needR ([] ++ txO s) r ++ [r.length] else needR [] r from rfl, if_neg (by simp), need_none r]
end Wk17

namespace Wk17
open PySem PySem.Spec PyProof.Rows L2 Ly
theorem chain_ok {M : Mem} {xs : List Str} {Q : D → Mem → Prop} (hx : NamesOk xs) (q : ∀ ss, Good xs ss → ss.length = 14 → Q (.tup (ss.map stD)) M) : Go (f__law_chain [.lst (xs.map .str)] M) Q := by
  rw [f__law_chain, go_callD, show startD 3 [.lst (xs.map .str)] = [some (.lst (xs.map .str)), none, none] from rfl, m__law_chain]
  obtain ⟨x0, x1, x2, xr, e⟩ := split3 hx.len
  have n0 : Nm 32 x0 := hx.nm x0 (by rw [e]; simp)
  have n1 : Nm 32 x1 := hx.nm x1 (by rw [e]; simp)
  have n2 : Nm 32 x2 := hx.nm x2 (by rw [e]; simp)
  have i0 : atI (xs.map D.str) 0 = some (.str x0) := by rw [e]; exact at_0
  have i1 : atI (xs.map D.str) 1 = some (.str x1) := by rw [e]; exact at_1
  have i2 : atI (xs.map D.str) 2 = some (.str x2) := by rw [e]; exact at_2
  rw [go_seq, go_set, go_lstC]
  simp only [go_bin, go_un, go_var, go_c, go_test, go_andT, go_orT, go_notT, go_yes, go_andV, go_if, go_nil, go_cons, go_tup, go_lst, go_lstC, go_cb, go_call, go_meth, go_noPart, go_part, go_sl, go_get, go_retN, go_lc, go_dc, go_iter, go_enum, go_rng, go_rng1, go_rng2, go_rng3, go_disp, go_pnil, go_pcons, go_bdT, go_bdF, go_ok, go_nx, go_rt, go_addI, go_addS, go_addT, go_addL, go_subI, go_mulI, go_mulL, go_modI, go_fdivI, go_powI, go_ltI, go_leI, go_gtI, go_geI, go_eqI, go_eqS, go_neI, go_neS, go_ixF, go_ixT, go_ixS, go_ixD, go_slT, go_slF, go_slR, go_slS, go_revF, go_revCF, go_revAT, go_revAL, List.getElem?_cons_zero, List.getElem?_cons_succ, List.set_cons_zero, List.set_cons_succ, List.length_cons, List.length_nil, D.int.injEq, D.bl.injEq, D.str.injEq, Option.some.injEq, exists_eq_left', go_listF, go_listT, go_tupleF, go_tupleT, go_lenF, go_lenT, go_lenS, go_isiS, go_isiI, go_intI, go_intB, go_maxI, it_lst, it_tupD, it_strD, en_lst, en_tup, fr_gN, wipeD, i0, i1, i2]
  refine ⟨by decide, by decide, by decide, by decide, ?_⟩
  rw [go_seq, go_for]
  simp only [go_bin, go_un, go_var, go_c, go_test, go_andT, go_orT, go_notT, go_yes, go_andV, go_if, go_nil, go_cons, go_tup, go_lst, go_lstC, go_cb, go_call, go_meth, go_noPart, go_part, go_sl, go_get, go_retN, go_lc, go_dc, go_iter, go_enum, go_rng, go_rng1, go_rng2, go_rng3, go_disp, go_pnil, go_pcons, go_bdT, go_bdF, go_ok, go_nx, go_rt, go_addI, go_addS, go_addT, go_addL, go_subI, go_mulI, go_mulL, go_modI, go_fdivI, go_powI, go_ltI, go_leI, go_gtI, go_geI, go_eqI, go_eqS, go_neI, go_neS, go_ixF, go_ixT, go_ixS, go_ixD, go_slT, go_slF, go_slR, go_slS, go_revF, go_revCF, go_revAT, go_revAL, List.getElem?_cons_zero, List.getElem?_cons_succ, List.set_cons_zero, List.set_cons_succ, List.length_cons, List.length_nil, D.int.injEq, D.bl.injEq, D.str.injEq, Option.some.injEq, exists_eq_left', go_listF, go_listT, go_tupleF, go_tupleT, go_lenF, go_lenT, go_lenS, go_isiS, go_isiI, go_intI, go_intB, go_maxI, it_lst, it_tupD, it_strD, en_lst, en_tup, fr_gN, wipeD]
  refine ⟨⟨rngOk_of (by decide) (by decide), rngOk_of (by decide) (by decide)⟩, ?_⟩
  have g0 : Good xs [⟨"free", x0, []⟩, ⟨"free", x1, []⟩, ⟨"middle", x2, [.s x0, .s x1]⟩] := by
    rw [e]
    exact good3 n0 n1 n2 wMiddle (.inl rfl) (.inr rfl)
  have at' : ∀ n : Nat, n < 16 → ∃ x, xs[n]? = some x ∧ atI (xs.map D.str) (n : Int) = some (.str x) := fun n hn => by
    obtain ⟨x, h⟩ : ∃ x, xs[n]? = some x := ⟨_, List.getElem?_eq_getElem (by rw [hx.len]; exact hn)⟩
    exact ⟨x, h, Ly.atI_nat (by rw [List.getElem?_map, h]; rfl)⟩
  refine go_loop (fun rem env M' => ∃ (i : Nat) (ss : List Stp) (y : Option D), rem = ((List.range 11).drop i).map (fun n => .int (3 + (n : Nat))) ∧ i ≤ 11 ∧ Good xs ss ∧ ss.length = 3 + i ∧ M' = M ++ [.lst (ss.map stD)] ∧ env = [some (.lst (xs.map .str)), some (.ref M.length), y]) ?_ ?_ _ _ _ ⟨0, _, none, rfl, Nat.zero_le _, g0, rfl, rfl, rfl⟩
  · rintro d rem env M' ⟨i, ss, y, er, hi, g, gl, rfl, rfl⟩
    refine ⟨trivial, _, rfl, ?_⟩
    cases ed : (List.range 11).drop i with
    | nil =>
      rw [ed] at er
      cases er
    | cons j r =>
      rw [ed] at er
      obtain ⟨rfl, rfl, hlt⟩ := range_at ed
      cases er
      rw [go_drop]
      obtain ⟨a, ha, ha2⟩ := at' (3 + j) (by omega)
      obtain ⟨b, hb, hb2⟩ := at' (2 + j) (by omega)
      obtain ⟨c, hc, hc2⟩ := at' ((3 + j) % 2) (by omega)
      have e1 : (3 + (j : Int)) = ((3 + j : Nat) : Int) := by omega
      have e2 : ((3 + j : Nat) : Int) - 1 = ((2 + j : Nat) : Int) := by omega
      have e3 : (((3 + j : Nat) : Int)).fmod 2 = (((3 + j) % 2 : Nat) : Int) := by
        rw [Int.fmod_eq_emod_of_nonneg _ (by decide)]
        omega
      simp only [go_bin, go_un, go_var, go_c, go_test, go_andT, go_orT, go_notT, go_yes, go_andV, go_if, go_nil, go_cons, go_tup, go_lst, go_lstC, go_cb, go_call, go_meth, go_noPart, go_part, go_sl, go_get, go_retN, go_lc, go_dc, go_iter, go_enum, go_rng, go_rng1, go_rng2, go_rng3, go_disp, go_pnil, go_pcons, go_bdT, go_bdF, go_ok, go_nx, go_rt, go_addI, go_addS, go_addT, go_addL, go_subI, go_mulI, go_mulL, go_modI, go_fdivI, go_powI, go_ltI, go_leI, go_gtI, go_geI, go_eqI, go_eqS, go_neI, go_neS, go_ixF, go_ixT, go_ixS, go_ixD, go_slT, go_slF, go_slR, go_slS, go_revF, go_revCF, go_revAT, go_revAL, List.getElem?_cons_zero, List.getElem?_cons_succ, List.set_cons_zero, List.set_cons_succ, List.length_cons, List.length_nil, D.int.injEq, D.bl.injEq, D.str.injEq, Option.some.injEq, exists_eq_left', go_listF, go_listT, go_tupleF, go_tupleT, go_lenF, go_lenT, go_lenS, go_isiS, go_isiI, go_intI, go_intB, go_maxI, it_lst, it_tupD, it_strD, en_lst, en_tup, fr_gN, wipeD, e1, e2, e3, ha2, hb2, hc2, isLst_ref (at_last M _), go_append (at_last M _), set_last, true_and]
      have mem : ∀ {n : Nat} {x : Str}, n < ss.length → xs[n]? = some x → x ∈ ss.map (·.n) := fun {n x} hn h => by
        rw [g.ns]
        exact List.mem_iff_getElem?.mpr ⟨n, by rw [List.getElem?_take_of_lt hn]; exact h⟩
      have so : StepOk (ss.map (·.n)) ⟨"middle", a, [.s b, .s c]⟩ := ⟨hx.nm a (List.mem_of_getElem? ha), wMiddle, by show 2 ≤ 3; decide, fun x hx' => by
        have : x = b ∨ x = c := by simpa using hx'
        rcases this with rfl | rfl
        · exact mem (by omega) hb
        · exact mem (by omega) hc, fun k hk => by simp at hk, fun z => absurd z neMiddle⟩
      refine ⟨by decide, by decide, by rw [List.length_map]; omega, j + 1, ss ++ [⟨"middle", a, [.s b, .s c]⟩], _, rfl, by omega, g.snoc so (by rw [gl]; exact ha) (by omega), by rw [List.length_append, List.length_singleton]; omega, ?_, rfl⟩
      rw [List.map_append]
      rfl
  · rintro env M' ⟨i, ss, y, er, hi, g, gl, rfl, rfl⟩
    refine ⟨trivial, ?_⟩
    have he : i = 11 := by
      have : ([] : List D).length = (((List.range 11).drop i).map (fun n => D.int (3 + (n : Nat)))).length := by rw [← er]
      rw [List.length_map, List.length_drop, List.length_range, List.length_nil] at this
      omega
    rw [go_ret]
    simp only [go_bin, go_un, go_var, go_c, go_test, go_andT, go_orT, go_notT, go_yes, go_andV, go_if, go_nil, go_cons, go_tup, go_lst, go_lstC, go_cb, go_call, go_meth, go_noPart, go_part, go_sl, go_get, go_retN, go_lc, go_dc, go_iter, go_enum, go_rng, go_rng1, go_rng2, go_rng3, go_disp, go_pnil, go_pcons, go_bdT, go_bdF, go_ok, go_nx, go_rt, go_addI, go_addS, go_addT, go_addL, go_subI, go_mulI, go_mulL, go_modI, go_fdivI, go_powI, go_ltI, go_leI, go_gtI, go_geI, go_eqI, go_eqS, go_neI, go_neS, go_ixF, go_ixT, go_ixS, go_ixD, go_slT, go_slF, go_slR, go_slS, go_revF, go_revCF, go_revAT, go_revAL, List.getElem?_cons_zero, List.getElem?_cons_succ, List.set_cons_zero, List.set_cons_succ, List.length_cons, List.length_nil, D.int.injEq, D.bl.injEq, D.str.injEq, Option.some.injEq, exists_eq_left', go_listF, go_listT, go_tupleF, go_tupleT, go_lenF, go_lenT, go_lenS, go_isiS, go_isiI, go_intI, go_intB, go_maxI, it_lst, it_tupD, it_strD, en_lst, en_tup, fr_gN, wipeD, go_tupleC (at_last M _)]
    refine go_fin_app (frz_low ?_) (q ss g (by omega))
    exact low_sts _ _
theorem go_eqT0 {M : Mem} {Q : D → Mem → Prop} : Go (opEq (.tup []) (.tup []) M) Q = Q (.bl true) M := id rfl
theorem right_ok {b : Nat} {T M : Mem} {xs : List Str} {ss : List Stp} {Q : D → Mem → Prop} (h : DkIs b T M) (hb : b ≤ 700000) (hx : NamesOk xs) (g : Good xs ss) (h2 : 2 ≤ ss.length) (q : ∀ M', DkIs (b + 24) T M' → Q (.bl true) M') : Go (f__law_right [.ref 1, .tup (ss.map stD)] M) Q := by
  have sl := g.le
  have hang1 : ∀ name : Str, (∀ j ∈ hangF [name] 0 ss, j < 1000) ∧ (hangF [name] 0 ss).length ≤ 100 := fun name => by
    obtain ⟨a, c⟩ := hang_small ss [name] 0
    exact ⟨fun j hj => by have := a j hj; omega, by omega⟩
  have need1 : ∀ ws : List Str, (∀ j ∈ needR ws ss.reverse, j < 1000) ∧ (needR ws ss.reverse).length ≤ 100 := fun ws => by
    obtain ⟨a, c⟩ := need_small ss.reverse ws
    rw [List.length_reverse] at a c
    exact ⟨fun j hj => by have := a j hj; omega, by omega⟩
  have same : ∀ ws : List Str, idxF (wantR ws ss.reverse) 0 ss = needR ws ss.reverse := fun ws => by
    have := need_eq ss.reverse ws (g.acyc hx)
    rw [List.reverse_reverse] at this
    exact this
  rw [f__law_right, go_callD, show startD 10 [D.ref 1, .tup (ss.map stD)] = [some (.ref 1), some (.tup (ss.map stD)), none, none, none, none, none, none, none, none] from rfl, m__law_right]
  rw [go_seq, go_set]
  simp only [go_bin, go_un, go_var, go_c, go_test, go_andT, go_orT, go_notT, go_yes, go_andV, go_if, go_nil, go_cons, go_tup, go_lst, go_lstC, go_cb, go_call, go_meth, go_noPart, go_part, go_sl, go_get, go_retN, go_lc, go_dc, go_iter, go_enum, go_rng, go_rng1, go_rng2, go_rng3, go_disp, go_pnil, go_pcons, go_bdT, go_bdF, go_ok, go_nx, go_rt, go_addI, go_addS, go_addT, go_addL, go_subI, go_mulI, go_mulL, go_modI, go_fdivI, go_powI, go_ltI, go_leI, go_gtI, go_geI, go_eqI, go_eqS, go_neI, go_neS, go_ixF, go_ixT, go_ixS, go_ixD, go_slT, go_slF, go_slR, go_slS, go_revF, go_revCF, go_revAT, go_revAL, List.getElem?_cons_zero, List.getElem?_cons_succ, List.set_cons_zero, List.set_cons_succ, List.length_cons, List.length_nil, D.int.injEq, D.bl.injEq, D.str.injEq, Option.some.injEq, exists_eq_left', go_listF, go_listT, go_tupleF, go_tupleT, go_lenF, go_lenT, go_lenS, go_isiS, go_isiI, go_intI, go_intB, go_maxI, it_lst, it_tupD, it_strD, en_lst, en_tup, fr_gN, wipeD, go_reprS g]
  rw [go_seq, go_set]
  simp only [go_bin, go_un, go_var, go_c, go_test, go_andT, go_orT, go_notT, go_yes, go_andV, go_if, go_nil, go_cons, go_tup, go_lst, go_lstC, go_cb, go_call, go_meth, go_noPart, go_part, go_sl, go_get, go_retN, go_lc, go_dc, go_iter, go_enum, go_rng, go_rng1, go_rng2, go_rng3, go_disp, go_pnil, go_pcons, go_bdT, go_bdF, go_ok, go_nx, go_rt, go_addI, go_addS, go_addT, go_addL, go_subI, go_mulI, go_mulL, go_modI, go_fdivI, go_powI, go_ltI, go_leI, go_gtI, go_geI, go_eqI, go_eqS, go_neI, go_neS, go_ixF, go_ixT, go_ixS, go_ixD, go_slT, go_slF, go_slR, go_slS, go_revF, go_revCF, go_revAT, go_revAL, List.getElem?_cons_zero, List.getElem?_cons_succ, List.set_cons_zero, List.set_cons_succ, List.length_cons, List.length_nil, D.int.injEq, D.bl.injEq, D.str.injEq, Option.some.injEq, exists_eq_left', go_listF, go_listT, go_tupleF, go_tupleT, go_lenF, go_lenT, go_lenS, go_isiS, go_isiI, go_intI, go_intB, go_maxI, it_lst, it_tupD, it_strD, en_lst, en_tup, fr_gN, wipeD]
  refine go_compP (fun _ => true) (fun d => match d with | .tup (_ :: n :: _) => n | d => d) trivial _ (by rw [List.length_map]; omega) ?_ ?_
  · intro d hd
    obtain ⟨s, hs, rfl⟩ := List.mem_map.mp hd
    refine ⟨_, rfl, ?_⟩
    simp only [go_bin, go_un, go_var, go_c, go_test, go_andT, go_orT, go_notT, go_yes, go_andV, go_if, go_nil, go_cons, go_tup, go_lst, go_lstC, go_cb, go_call, go_meth, go_noPart, go_part, go_sl, go_get, go_retN, go_lc, go_dc, go_iter, go_enum, go_rng, go_rng1, go_rng2, go_rng3, go_disp, go_pnil, go_pcons, go_bdT, go_bdF, go_ok, go_nx, go_rt, go_addI, go_addS, go_addT, go_addL, go_subI, go_mulI, go_mulL, go_modI, go_fdivI, go_powI, go_ltI, go_leI, go_gtI, go_geI, go_eqI, go_eqS, go_neI, go_neS, go_ixF, go_ixT, go_ixS, go_ixD, go_slT, go_slF, go_slR, go_slS, go_revF, go_revCF, go_revAT, go_revAL, List.getElem?_cons_zero, List.getElem?_cons_succ, List.set_cons_zero, List.set_cons_succ, List.length_cons, List.length_nil, D.int.injEq, D.bl.injEq, D.str.injEq, Option.some.injEq, exists_eq_left', go_listF, go_listT, go_tupleF, go_tupleT, go_lenF, go_lenT, go_lenS, go_isiS, go_isiI, go_intI, go_intB, go_maxI, it_lst, it_tupD, it_strD, en_lst, en_tup, fr_gN, wipeD, stD, at_1]
    exact ⟨by trivial, by trivial, fun _ => ⟨by trivial, by trivial⟩⟩
  have en : ((ss.map stD).filter fun _ => true).map (fun d => match d with | .tup (_ :: n :: _) => n | d => d) = (ss.map (·.n)).map D.str := by
    rw [List.filter_eq_self.mpr (fun _ _ => rfl), List.map_map, List.map_map]
    rfl
  rw [en, go_seq, go_for]
  simp only [go_bin, go_un, go_var, go_c, go_test, go_andT, go_orT, go_notT, go_yes, go_andV, go_if, go_nil, go_cons, go_tup, go_lst, go_lstC, go_cb, go_call, go_meth, go_noPart, go_part, go_sl, go_get, go_retN, go_lc, go_dc, go_iter, go_enum, go_rng, go_rng1, go_rng2, go_rng3, go_disp, go_pnil, go_pcons, go_bdT, go_bdF, go_ok, go_nx, go_rt, go_addI, go_addS, go_addT, go_addL, go_subI, go_mulI, go_mulL, go_modI, go_fdivI, go_powI, go_ltI, go_leI, go_gtI, go_geI, go_eqI, go_eqS, go_neI, go_neS, go_ixF, go_ixT, go_ixS, go_ixD, go_slT, go_slF, go_slR, go_slS, go_revF, go_revCF, go_revAT, go_revAL, List.getElem?_cons_zero, List.getElem?_cons_succ, List.set_cons_zero, List.set_cons_succ, List.length_cons, List.length_nil, D.int.injEq, D.bl.injEq, D.str.injEq, Option.some.injEq, exists_eq_left', go_listF, go_listT, go_tupleF, go_tupleT, go_lenF, go_lenT, go_lenS, go_isiS, go_isiI, go_intI, go_intB, go_maxI, it_lst, it_tupD, it_strD, en_lst, en_tup, fr_gN, wipeD]
  refine go_loop (fun rem env M' => M' = M ∧ (∃ ns : List Str, rem = ns.map .str) ∧ ∃ x y : Option D, env = [some (.ref 1), some (.tup (ss.map stD)), some (.str (shS ss)), some (.lst ((ss.map (·.n)).map .str)), x, none, y, none, none, none]) ?_ ?_ _ _ _ ⟨rfl, ⟨_, rfl⟩, none, none, rfl⟩
  · rintro d rem env M' ⟨rfl, ⟨ns, er⟩, x, y, rfl⟩
    cases ns with
    | nil => cases er
    | cons name ns =>
      cases er
      obtain ⟨a1, a2⟩ := hang1 name
      obtain ⟨c1, c2⟩ := need1 [name]
      refine ⟨trivial, _, rfl, ?_⟩
      rw [go_seq, go_set]
      simp only [go_bin, go_un, go_var, go_c, go_test, go_andT, go_orT, go_notT, go_yes, go_andV, go_if, go_nil, go_cons, go_tup, go_lst, go_lstC, go_cb, go_call, go_meth, go_noPart, go_part, go_sl, go_get, go_retN, go_lc, go_dc, go_iter, go_enum, go_rng, go_rng1, go_rng2, go_rng3, go_disp, go_pnil, go_pcons, go_bdT, go_bdF, go_ok, go_nx, go_rt, go_addI, go_addS, go_addT, go_addL, go_subI, go_mulI, go_mulL, go_modI, go_fdivI, go_powI, go_ltI, go_leI, go_gtI, go_geI, go_eqI, go_eqS, go_neI, go_neS, go_ixF, go_ixT, go_ixS, go_ixD, go_slT, go_slF, go_slR, go_slS, go_revF, go_revCF, go_revAT, go_revAL, List.getElem?_cons_zero, List.getElem?_cons_succ, List.set_cons_zero, List.set_cons_succ, List.length_cons, List.length_nil, D.int.injEq, D.bl.injEq, D.str.injEq, Option.some.injEq, exists_eq_left', go_listF, go_listT, go_tupleF, go_tupleT, go_lenF, go_lenT, go_lenS, go_isiS, go_isiI, go_intI, go_intB, go_maxI, it_lst, it_tupD, it_strD, en_lst, en_tup, fr_gN, wipeD]
      refine ⟨trivial, lhang_ok g ?_⟩
      simp only [go_bin, go_un, go_var, go_c, go_test, go_andT, go_orT, go_notT, go_yes, go_andV, go_if, go_nil, go_cons, go_tup, go_lst, go_lstC, go_cb, go_call, go_meth, go_noPart, go_part, go_sl, go_get, go_retN, go_lc, go_dc, go_iter, go_enum, go_rng, go_rng1, go_rng2, go_rng3, go_disp, go_pnil, go_pcons, go_bdT, go_bdF, go_ok, go_nx, go_rt, go_addI, go_addS, go_addT, go_addL, go_subI, go_mulI, go_mulL, go_modI, go_fdivI, go_powI, go_ltI, go_leI, go_gtI, go_geI, go_eqI, go_eqS, go_neI, go_neS, go_ixF, go_ixT, go_ixS, go_ixD, go_slT, go_slF, go_slR, go_slS, go_revF, go_revCF, go_revAT, go_revAL, List.getElem?_cons_zero, List.getElem?_cons_succ, List.set_cons_zero, List.set_cons_succ, List.length_cons, List.length_nil, D.int.injEq, D.bl.injEq, D.str.injEq, Option.some.injEq, exists_eq_left', go_listF, go_listT, go_tupleF, go_tupleT, go_lenF, go_lenT, go_lenS, go_isiS, go_isiI, go_intI, go_intB, go_maxI, it_lst, it_tupD, it_strD, en_lst, en_tup, fr_gN, wipeD, go_reprI a1 a2]
      rw [go_seq, go_ifS]
      simp only [go_bin, go_un, go_var, go_c, go_test, go_andT, go_orT, go_notT, go_yes, go_andV, go_if, go_nil, go_cons, go_tup, go_lst, go_lstC, go_cb, go_call, go_meth, go_noPart, go_part, go_sl, go_get, go_retN, go_lc, go_dc, go_iter, go_enum, go_rng, go_rng1, go_rng2, go_rng3, go_disp, go_pnil, go_pcons, go_bdT, go_bdF, go_ok, go_nx, go_rt, go_addI, go_addS, go_addT, go_addL, go_subI, go_mulI, go_mulL, go_modI, go_fdivI, go_powI, go_ltI, go_leI, go_gtI, go_geI, go_eqI, go_eqS, go_neI, go_neS, go_ixF, go_ixT, go_ixS, go_ixD, go_slT, go_slF, go_slR, go_slS, go_revF, go_revCF, go_revAT, go_revAL, List.getElem?_cons_zero, List.getElem?_cons_succ, List.set_cons_zero, List.set_cons_succ, List.length_cons, List.length_nil, D.int.injEq, D.bl.injEq, D.str.injEq, Option.some.injEq, exists_eq_left', go_listF, go_listT, go_tupleF, go_tupleT, go_lenF, go_lenT, go_lenS, go_isiS, go_isiI, go_intI, go_intB, go_maxI, it_lst, it_tupD, it_strD, en_lst, en_tup, fr_gN, wipeD]
      refine ⟨trivial, hanging_ok g ?_⟩
      simp only [go_bin, go_un, go_var, go_c, go_test, go_andT, go_orT, go_notT, go_yes, go_andV, go_if, go_nil, go_cons, go_tup, go_lst, go_lstC, go_cb, go_call, go_meth, go_noPart, go_part, go_sl, go_get, go_retN, go_lc, go_dc, go_iter, go_enum, go_rng, go_rng1, go_rng2, go_rng3, go_disp, go_pnil, go_pcons, go_bdT, go_bdF, go_ok, go_nx, go_rt, go_addI, go_addS, go_addT, go_addL, go_subI, go_mulI, go_mulL, go_modI, go_fdivI, go_powI, go_ltI, go_leI, go_gtI, go_geI, go_eqI, go_eqS, go_neI, go_neS, go_ixF, go_ixT, go_ixS, go_ixD, go_slT, go_slF, go_slR, go_slS, go_revF, go_revCF, go_revAT, go_revAL, List.getElem?_cons_zero, List.getElem?_cons_succ, List.set_cons_zero, List.set_cons_succ, List.length_cons, List.length_nil, D.int.injEq, D.bl.injEq, D.str.injEq, Option.some.injEq, exists_eq_left', go_listF, go_listT, go_tupleF, go_tupleT, go_lenF, go_lenT, go_lenS, go_isiS, go_isiI, go_intI, go_intB, go_maxI, it_lst, it_tupD, it_strD, en_lst, en_tup, fr_gN, wipeD, go_reprI a1 a2, decide_true, Bool.not_true, if_false, Bool.false_eq_true]
      refine ⟨trivial, hanging_ok g ?_⟩
      simp only [go_bin, go_un, go_var, go_c, go_test, go_andT, go_orT, go_notT, go_yes, go_andV, go_if, go_nil, go_cons, go_tup, go_lst, go_lstC, go_cb, go_call, go_meth, go_noPart, go_part, go_sl, go_get, go_retN, go_lc, go_dc, go_iter, go_enum, go_rng, go_rng1, go_rng2, go_rng3, go_disp, go_pnil, go_pcons, go_bdT, go_bdF, go_ok, go_nx, go_rt, go_addI, go_addS, go_addT, go_addL, go_subI, go_mulI, go_mulL, go_modI, go_fdivI, go_powI, go_ltI, go_leI, go_gtI, go_geI, go_eqI, go_eqS, go_neI, go_neS, go_ixF, go_ixT, go_ixS, go_ixD, go_slT, go_slF, go_slR, go_slS, go_revF, go_revCF, go_revAT, go_revAL, List.getElem?_cons_zero, List.getElem?_cons_succ, List.set_cons_zero, List.set_cons_succ, List.length_cons, List.length_nil, D.int.injEq, D.bl.injEq, D.str.injEq, Option.some.injEq, exists_eq_left', go_listF, go_listT, go_tupleF, go_tupleT, go_lenF, go_lenT, go_lenS, go_isiS, go_isiI, go_intI, go_intB, go_maxI, it_lst, it_tupD, it_strD, en_lst, en_tup, fr_gN, wipeD, go_reprI a1 a2, decide_true, Bool.not_true, if_false, Bool.false_eq_true]
      rw [go_next, go_seq, go_set]
      simp only [go_bin, go_un, go_var, go_c, go_test, go_andT, go_orT, go_notT, go_yes, go_andV, go_if, go_nil, go_cons, go_tup, go_lst, go_lstC, go_cb, go_call, go_meth, go_noPart, go_part, go_sl, go_get, go_retN, go_lc, go_dc, go_iter, go_enum, go_rng, go_rng1, go_rng2, go_rng3, go_disp, go_pnil, go_pcons, go_bdT, go_bdF, go_ok, go_nx, go_rt, go_addI, go_addS, go_addT, go_addL, go_subI, go_mulI, go_mulL, go_modI, go_fdivI, go_powI, go_ltI, go_leI, go_gtI, go_geI, go_eqI, go_eqS, go_neI, go_neS, go_ixF, go_ixT, go_ixS, go_ixD, go_slT, go_slF, go_slR, go_slS, go_revF, go_revCF, go_revAT, go_revAL, List.getElem?_cons_zero, List.getElem?_cons_succ, List.set_cons_zero, List.set_cons_succ, List.length_cons, List.length_nil, D.int.injEq, D.bl.injEq, D.str.injEq, Option.some.injEq, exists_eq_left', go_listF, go_listT, go_tupleF, go_tupleT, go_lenF, go_lenT, go_lenS, go_isiS, go_isiI, go_intI, go_intB, go_maxI, it_lst, it_tupD, it_strD, en_lst, en_tup, fr_gN, wipeD]
      refine ⟨by decide, trivial, lneed_core (ws := [name]) g (by show 1 ≤ 100; decide) (.inl rfl) ?_⟩
      rw [same]
      simp only [go_bin, go_un, go_var, go_c, go_test, go_andT, go_orT, go_notT, go_yes, go_andV, go_if, go_nil, go_cons, go_tup, go_lst, go_lstC, go_cb, go_call, go_meth, go_noPart, go_part, go_sl, go_get, go_retN, go_lc, go_dc, go_iter, go_enum, go_rng, go_rng1, go_rng2, go_rng3, go_disp, go_pnil, go_pcons, go_bdT, go_bdF, go_ok, go_nx, go_rt, go_addI, go_addS, go_addT, go_addL, go_subI, go_mulI, go_mulL, go_modI, go_fdivI, go_powI, go_ltI, go_leI, go_gtI, go_geI, go_eqI, go_eqS, go_neI, go_neS, go_ixF, go_ixT, go_ixS, go_ixD, go_slT, go_slF, go_slR, go_slS, go_revF, go_revCF, go_revAT, go_revAL, List.getElem?_cons_zero, List.getElem?_cons_succ, List.set_cons_zero, List.set_cons_succ, List.length_cons, List.length_nil, D.int.injEq, D.bl.injEq, D.str.injEq, Option.some.injEq, exists_eq_left', go_listF, go_listT, go_tupleF, go_tupleT, go_lenF, go_lenT, go_lenS, go_isiS, go_isiI, go_intI, go_intB, go_maxI, it_lst, it_tupD, it_strD, en_lst, en_tup, fr_gN, wipeD, go_reprI c1 c2]
      rw [go_ifS]
      simp only [go_bin, go_un, go_var, go_c, go_test, go_andT, go_orT, go_notT, go_yes, go_andV, go_if, go_nil, go_cons, go_tup, go_lst, go_lstC, go_cb, go_call, go_meth, go_noPart, go_part, go_sl, go_get, go_retN, go_lc, go_dc, go_iter, go_enum, go_rng, go_rng1, go_rng2, go_rng3, go_disp, go_pnil, go_pcons, go_bdT, go_bdF, go_ok, go_nx, go_rt, go_addI, go_addS, go_addT, go_addL, go_subI, go_mulI, go_mulL, go_modI, go_fdivI, go_powI, go_ltI, go_leI, go_gtI, go_geI, go_eqI, go_eqS, go_neI, go_neS, go_ixF, go_ixT, go_ixS, go_ixD, go_slT, go_slF, go_slR, go_slS, go_revF, go_revCF, go_revAT, go_revAL, List.getElem?_cons_zero, List.getElem?_cons_succ, List.set_cons_zero, List.set_cons_succ, List.length_cons, List.length_nil, D.int.injEq, D.bl.injEq, D.str.injEq, Option.some.injEq, exists_eq_left', go_listF, go_listT, go_tupleF, go_tupleT, go_lenF, go_lenT, go_lenS, go_isiS, go_isiI, go_intI, go_intB, go_maxI, it_lst, it_tupD, it_strD, en_lst, en_tup, fr_gN, wipeD]
      refine ⟨by decide, trivial, needed_ok (ws := [name]) g (by show 1 ≤ 100; decide) ?_⟩
      simp only [go_bin, go_un, go_var, go_c, go_test, go_andT, go_orT, go_notT, go_yes, go_andV, go_if, go_nil, go_cons, go_tup, go_lst, go_lstC, go_cb, go_call, go_meth, go_noPart, go_part, go_sl, go_get, go_retN, go_lc, go_dc, go_iter, go_enum, go_rng, go_rng1, go_rng2, go_rng3, go_disp, go_pnil, go_pcons, go_bdT, go_bdF, go_ok, go_nx, go_rt, go_addI, go_addS, go_addT, go_addL, go_subI, go_mulI, go_mulL, go_modI, go_fdivI, go_powI, go_ltI, go_leI, go_gtI, go_geI, go_eqI, go_eqS, go_neI, go_neS, go_ixF, go_ixT, go_ixS, go_ixD, go_slT, go_slF, go_slR, go_slS, go_revF, go_revCF, go_revAT, go_revAL, List.getElem?_cons_zero, List.getElem?_cons_succ, List.set_cons_zero, List.set_cons_succ, List.length_cons, List.length_nil, D.int.injEq, D.bl.injEq, D.str.injEq, Option.some.injEq, exists_eq_left', go_listF, go_listT, go_tupleF, go_tupleT, go_lenF, go_lenT, go_lenS, go_isiS, go_isiI, go_intI, go_intB, go_maxI, it_lst, it_tupD, it_strD, en_lst, en_tup, fr_gN, wipeD, go_reprI c1 c2, decide_true, Bool.not_true, if_false, Bool.false_eq_true]
      rw [go_next]
      exact ⟨rfl, ⟨ns, rfl⟩, _, _, rfl⟩
  rintro env M' ⟨rfl, _, x, y, rfl⟩
  refine ⟨trivial, ?_⟩
  rw [go_seq, go_for]
  simp only [go_bin, go_un, go_var, go_c, go_test, go_andT, go_orT, go_notT, go_yes, go_andV, go_if, go_nil, go_cons, go_tup, go_lst, go_lstC, go_cb, go_call, go_meth, go_noPart, go_part, go_sl, go_get, go_retN, go_lc, go_dc, go_iter, go_enum, go_rng, go_rng1, go_rng2, go_rng3, go_disp, go_pnil, go_pcons, go_bdT, go_bdF, go_ok, go_nx, go_rt, go_addI, go_addS, go_addT, go_addL, go_subI, go_mulI, go_mulL, go_modI, go_fdivI, go_powI, go_ltI, go_leI, go_gtI, go_geI, go_eqI, go_eqS, go_neI, go_neS, go_ixF, go_ixT, go_ixS, go_ixD, go_slT, go_slF, go_slR, go_slS, go_revF, go_revCF, go_revAT, go_revAL, List.getElem?_cons_zero, List.getElem?_cons_succ, List.set_cons_zero, List.set_cons_succ, List.length_cons, List.length_nil, D.int.injEq, D.bl.injEq, D.str.injEq, Option.some.injEq, exists_eq_left', go_listF, go_listT, go_tupleF, go_tupleT, go_lenF, go_lenT, go_lenS, go_isiS, go_isiI, go_intI, go_intB, go_maxI, it_lst, it_tupD, it_strD, en_lst, en_tup, fr_gN, wipeD]
  refine ⟨rngOk_of (by decide) (by decide), ?_⟩
  refine go_loop (fun rem env M' => DkIs (b + 4 * (6 - rem.length)) T M' ∧ rem.length ≤ 6 ∧ ∃ x y z w : Option D, env = [some (.ref 1), some (.tup (ss.map stD)), some (.str (shS ss)), some (.lst ((ss.map (·.n)).map .str)), x, y, z, w, none, none]) ?_ ?_ _ _ _ ⟨h.mono (Nat.le_add_right _ _), Nat.le_refl 6, _, _, _, _, rfl⟩
  · rintro d rem env M' ⟨hd, hr, x, y, z, w, rfl⟩
    rw [List.length_cons] at hd hr
    refine ⟨trivial, _, rfl, ?_⟩
    rw [go_seq, go_set]
    simp only [go_bin, go_un, go_var, go_c, go_test, go_andT, go_orT, go_notT, go_yes, go_andV, go_if, go_nil, go_cons, go_tup, go_lst, go_lstC, go_cb, go_call, go_meth, go_noPart, go_part, go_sl, go_get, go_retN, go_lc, go_dc, go_iter, go_enum, go_rng, go_rng1, go_rng2, go_rng3, go_disp, go_pnil, go_pcons, go_bdT, go_bdF, go_ok, go_nx, go_rt, go_addI, go_addS, go_addT, go_addL, go_subI, go_mulI, go_mulL, go_modI, go_fdivI, go_powI, go_ltI, go_leI, go_gtI, go_geI, go_eqI, go_eqS, go_neI, go_neS, go_ixF, go_ixT, go_ixS, go_ixD, go_slT, go_slF, go_slR, go_slS, go_revF, go_revCF, go_revAT, go_revAL, List.getElem?_cons_zero, List.getElem?_cons_succ, List.set_cons_zero, List.set_cons_succ, List.length_cons, List.length_nil, D.int.injEq, D.bl.injEq, D.str.injEq, Option.some.injEq, exists_eq_left', go_listF, go_listT, go_tupleF, go_tupleT, go_lenF, go_lenT, go_lenS, go_isiS, go_isiI, go_intI, go_intB, go_maxI, it_lst, it_tupD, it_strD, en_lst, en_tup, fr_gN, wipeD]
    refine ⟨trivial, draw_ok hd (by omega) (by decide) (by decide) fun r M1 r0 r1 h1 => ?_⟩
    simp only [go_bin, go_un, go_var, go_c, go_test, go_andT, go_orT, go_notT, go_yes, go_andV, go_if, go_nil, go_cons, go_tup, go_lst, go_lstC, go_cb, go_call, go_meth, go_noPart, go_part, go_sl, go_get, go_retN, go_lc, go_dc, go_iter, go_enum, go_rng, go_rng1, go_rng2, go_rng3, go_disp, go_pnil, go_pcons, go_bdT, go_bdF, go_ok, go_nx, go_rt, go_addI, go_addS, go_addT, go_addL, go_subI, go_mulI, go_mulL, go_modI, go_fdivI, go_powI, go_ltI, go_leI, go_gtI, go_geI, go_eqI, go_eqS, go_neI, go_neS, go_ixF, go_ixT, go_ixS, go_ixD, go_slT, go_slF, go_slR, go_slS, go_revF, go_revCF, go_revAT, go_revAL, List.getElem?_cons_zero, List.getElem?_cons_succ, List.set_cons_zero, List.set_cons_succ, List.length_cons, List.length_nil, D.int.injEq, D.bl.injEq, D.str.injEq, Option.some.injEq, exists_eq_left', go_listF, go_listT, go_tupleF, go_tupleT, go_lenF, go_lenT, go_lenS, go_isiS, go_isiI, go_intI, go_intB, go_maxI, it_lst, it_tupD, it_strD, en_lst, en_tup, fr_gN, wipeD]
    refine ⟨rngOk_of (by omega) (by omega), ?_⟩
    refine go_comp (fun rem2 acc M2 => ∃ ws : List Str, acc = ws.map .str ∧ ws.length + rem2.length ≤ 3 ∧ DkIs (b + 4 * (6 - (rem.length + 1)) + 1 + ws.length) T M2) ?_ ?_ _ _ _ ⟨[], rfl, by rw [List.length_map, List.length_range, List.length_nil]; omega, h1⟩
    · rintro d rem2 acc M2 ⟨ws, rfl, wl, h2'⟩
      rw [List.length_cons] at wl
      refine ⟨trivial, _, rfl, ?_⟩
      rw [go_yes, if_pos rfl]
      simp only [go_bin, go_un, go_var, go_c, go_test, go_andT, go_orT, go_notT, go_yes, go_andV, go_if, go_nil, go_cons, go_tup, go_lst, go_lstC, go_cb, go_call, go_meth, go_noPart, go_part, go_sl, go_get, go_retN, go_lc, go_dc, go_iter, go_enum, go_rng, go_rng1, go_rng2, go_rng3, go_disp, go_pnil, go_pcons, go_bdT, go_bdF, go_ok, go_nx, go_rt, go_addI, go_addS, go_addT, go_addL, go_subI, go_mulI, go_mulL, go_modI, go_fdivI, go_powI, go_ltI, go_leI, go_gtI, go_geI, go_eqI, go_eqS, go_neI, go_neS, go_ixF, go_ixT, go_ixS, go_ixD, go_slT, go_slF, go_slR, go_slS, go_revF, go_revCF, go_revAT, go_revAL, List.getElem?_cons_zero, List.getElem?_cons_succ, List.set_cons_zero, List.set_cons_succ, List.length_cons, List.length_nil, D.int.injEq, D.bl.injEq, D.str.injEq, Option.some.injEq, exists_eq_left', go_listF, go_listT, go_tupleF, go_tupleT, go_lenF, go_lenT, go_lenS, go_isiS, go_isiI, go_intI, go_intB, go_maxI, it_lst, it_tupD, it_strD, en_lst, en_tup, fr_gN, wipeD]
      refine ⟨trivial, pick_ok h2' (by omega) (by rw [List.length_map]; omega) (by rw [List.length_map]; omega) fun v M3 hv h3 => ⟨by rw [List.length_map]; omega, ws ++ [v], by rw [List.map_append]; rfl, by rw [List.length_append, List.length_singleton]; omega, ?_⟩⟩
      rw [List.length_append, List.length_singleton]
      exact h3
    · rintro acc M2 ⟨ws, rfl, wl, h2'⟩
      refine ⟨trivial, ?_⟩
      obtain ⟨c1, c2⟩ := need1 ws
      have wl2 : ws.length ≤ 3 := by omega
      rw [go_ifS]
      simp only [go_bin, go_un, go_var, go_c, go_test, go_andT, go_orT, go_notT, go_yes, go_andV, go_if, go_nil, go_cons, go_tup, go_lst, go_lstC, go_cb, go_call, go_meth, go_noPart, go_part, go_sl, go_get, go_retN, go_lc, go_dc, go_iter, go_enum, go_rng, go_rng1, go_rng2, go_rng3, go_disp, go_pnil, go_pcons, go_bdT, go_bdF, go_ok, go_nx, go_rt, go_addI, go_addS, go_addT, go_addL, go_subI, go_mulI, go_mulL, go_modI, go_fdivI, go_powI, go_ltI, go_leI, go_gtI, go_geI, go_eqI, go_eqS, go_neI, go_neS, go_ixF, go_ixT, go_ixS, go_ixD, go_slT, go_slF, go_slR, go_slS, go_revF, go_revCF, go_revAT, go_revAL, List.getElem?_cons_zero, List.getElem?_cons_succ, List.set_cons_zero, List.set_cons_succ, List.length_cons, List.length_nil, D.int.injEq, D.bl.injEq, D.str.injEq, Option.some.injEq, exists_eq_left', go_listF, go_listT, go_tupleF, go_tupleT, go_lenF, go_lenT, go_lenS, go_isiS, go_isiI, go_intI, go_intB, go_maxI, it_lst, it_tupD, it_strD, en_lst, en_tup, fr_gN, wipeD]
      refine ⟨trivial, needed_ok (ws := ws) g (by omega) ?_⟩
      simp only [go_bin, go_un, go_var, go_c, go_test, go_andT, go_orT, go_notT, go_yes, go_andV, go_if, go_nil, go_cons, go_tup, go_lst, go_lstC, go_cb, go_call, go_meth, go_noPart, go_part, go_sl, go_get, go_retN, go_lc, go_dc, go_iter, go_enum, go_rng, go_rng1, go_rng2, go_rng3, go_disp, go_pnil, go_pcons, go_bdT, go_bdF, go_ok, go_nx, go_rt, go_addI, go_addS, go_addT, go_addL, go_subI, go_mulI, go_mulL, go_modI, go_fdivI, go_powI, go_ltI, go_leI, go_gtI, go_geI, go_eqI, go_eqS, go_neI, go_neS, go_ixF, go_ixT, go_ixS, go_ixD, go_slT, go_slF, go_slR, go_slS, go_revF, go_revCF, go_revAT, go_revAL, List.getElem?_cons_zero, List.getElem?_cons_succ, List.set_cons_zero, List.set_cons_succ, List.length_cons, List.length_nil, D.int.injEq, D.bl.injEq, D.str.injEq, Option.some.injEq, exists_eq_left', go_listF, go_listT, go_tupleF, go_tupleT, go_lenF, go_lenT, go_lenS, go_isiS, go_isiI, go_intI, go_intB, go_maxI, it_lst, it_tupD, it_strD, en_lst, en_tup, fr_gN, wipeD, go_reprI c1 c2]
      refine ⟨trivial, lneed_core (ws := ws) g (by omega) (.inr rfl) ?_⟩
      rw [same]
      simp only [go_bin, go_un, go_var, go_c, go_test, go_andT, go_orT, go_notT, go_yes, go_andV, go_if, go_nil, go_cons, go_tup, go_lst, go_lstC, go_cb, go_call, go_meth, go_noPart, go_part, go_sl, go_get, go_retN, go_lc, go_dc, go_iter, go_enum, go_rng, go_rng1, go_rng2, go_rng3, go_disp, go_pnil, go_pcons, go_bdT, go_bdF, go_ok, go_nx, go_rt, go_addI, go_addS, go_addT, go_addL, go_subI, go_mulI, go_mulL, go_modI, go_fdivI, go_powI, go_ltI, go_leI, go_gtI, go_geI, go_eqI, go_eqS, go_neI, go_neS, go_ixF, go_ixT, go_ixS, go_ixD, go_slT, go_slF, go_slR, go_slS, go_revF, go_revCF, go_revAT, go_revAL, List.getElem?_cons_zero, List.getElem?_cons_succ, List.set_cons_zero, List.set_cons_succ, List.length_cons, List.length_nil, D.int.injEq, D.bl.injEq, D.str.injEq, Option.some.injEq, exists_eq_left', go_listF, go_listT, go_tupleF, go_tupleT, go_lenF, go_lenT, go_lenS, go_isiS, go_isiI, go_intI, go_intB, go_maxI, it_lst, it_tupD, it_strD, en_lst, en_tup, fr_gN, wipeD, go_reprI c1 c2, decide_true, Bool.not_true, if_false, Bool.false_eq_true]
      rw [go_next]
      exact ⟨h2'.mono (by omega), by omega, _, _, _, _, rfl⟩
  rintro env M' ⟨hd, hr, x, y, z, w, rfl⟩
  refine ⟨trivial, ?_⟩
  rw [go_ret]
  simp only [go_bin, go_un, go_var, go_c, go_test, go_andT, go_orT, go_notT, go_yes, go_andV, go_if, go_nil, go_cons, go_tup, go_lst, go_lstC, go_cb, go_call, go_meth, go_noPart, go_part, go_sl, go_get, go_retN, go_lc, go_dc, go_iter, go_enum, go_rng, go_rng1, go_rng2, go_rng3, go_disp, go_pnil, go_pcons, go_bdT, go_bdF, go_ok, go_nx, go_rt, go_addI, go_addS, go_addT, go_addL, go_subI, go_mulI, go_mulL, go_modI, go_fdivI, go_powI, go_ltI, go_leI, go_gtI, go_geI, go_eqI, go_eqS, go_neI, go_neS, go_ixF, go_ixT, go_ixS, go_ixD, go_slT, go_slF, go_slR, go_slS, go_revF, go_revCF, go_revAT, go_revAL, List.getElem?_cons_zero, List.getElem?_cons_succ, List.set_cons_zero, List.set_cons_succ, List.length_cons, List.length_nil, D.int.injEq, D.bl.injEq, D.str.injEq, Option.some.injEq, exists_eq_left', go_listF, go_listT, go_tupleF, go_tupleT, go_lenF, go_lenT, go_lenS, go_isiS, go_isiI, go_intI, go_intB, go_maxI, it_lst, it_tupD, it_strD, en_lst, en_tup, fr_gN, wipeD, go_reprS g, decide_true, if_true]
  refine ⟨by decide, trivial, needed_ok (ws := []) g (by decide) ?_⟩
  rw [need_none]
  refine ⟨by decide, ?_⟩
  show Go (opEq (.tup []) (.tup []) M') _
  rw [go_eqT0]
  exact go_fin_dk0 h (hd.mono (b' := b + 24) (by omega)) (frz_low rfl) fun M2 h2 => q M2 h2
theorem go_notB {t : MT} {env : Ly.Env} {M : Mem} {QB : Bool → Mem → Prop} (h : Go (t env M) fun c M1 => QB (!c) M1) : Go (mNotT t env M) QB := by
  rw [go_notT]
  exact h
theorem law_math (ns : List Int) (hn : ns.length ≤ 63) : ∃ M', f_law [scriptD ns] [] = .ok (.bl true) M' := by
  have main : Go (f_law [scriptD ns] []) fun d _ => d = .bl true := by
    have fin : ∀ M' : Mem, Go (finish [] (.bl true) M') fun d _ => d = .bl true := fun M' => go_finish (fun i hi => absurd hi (Nat.not_lt_zero _)) (frz_low rfl) rfl
    rw [f_law, go_callD, show startD 5 [scriptD ns] = [some (scriptD ns), none, none, none, none] from rfl, m_law]
    rw [go_seq, go_set]
    simp only [go_bin, go_un, go_var, go_c, go_test, go_andT, go_orT, go_notT, go_yes, go_andV, go_if, go_nil, go_cons, go_tup, go_lst, go_lstC, go_cb, go_call, go_meth, go_noPart, go_part, go_sl, go_get, go_retN, go_lc, go_dc, go_iter, go_enum, go_rng, go_rng1, go_rng2, go_rng3, go_disp, go_pnil, go_pcons, go_bdT, go_bdF, go_ok, go_nx, go_rt, go_addI, go_addS, go_addT, go_addL, go_subI, go_mulI, go_mulL, go_modI, go_fdivI, go_powI, go_ltI, go_leI, go_gtI, go_geI, go_eqI, go_eqS, go_neI, go_neS, go_ixF, go_ixT, go_ixS, go_ixD, go_slT, go_slF, go_slR, go_slS, go_revF, go_revCF, go_revAT, go_revAL, List.getElem?_cons_zero, List.getElem?_cons_succ, List.set_cons_zero, List.set_cons_succ, List.length_cons, List.length_nil, D.int.injEq, D.bl.injEq, D.str.injEq, Option.some.injEq, exists_eq_left', go_listF, go_listT, go_tupleF, go_tupleT, go_lenF, go_lenT, go_lenS, go_isiS, go_isiI, go_intI, go_intB, go_maxI, it_lst, it_tupD, it_strD, en_lst, en_tup, fr_gN, wipeD]
    refine ⟨trivial, deck_ok hn fun M0 h0 => ?_⟩
    rw [go_seq, go_for]
    simp only [go_bin, go_un, go_var, go_c, go_test, go_andT, go_orT, go_notT, go_yes, go_andV, go_if, go_nil, go_cons, go_tup, go_lst, go_lstC, go_cb, go_call, go_meth, go_noPart, go_part, go_sl, go_get, go_retN, go_lc, go_dc, go_iter, go_enum, go_rng, go_rng1, go_rng2, go_rng3, go_disp, go_pnil, go_pcons, go_bdT, go_bdF, go_ok, go_nx, go_rt, go_addI, go_addS, go_addT, go_addL, go_subI, go_mulI, go_mulL, go_modI, go_fdivI, go_powI, go_ltI, go_leI, go_gtI, go_geI, go_eqI, go_eqS, go_neI, go_neS, go_ixF, go_ixT, go_ixS, go_ixD, go_slT, go_slF, go_slR, go_slS, go_revF, go_revCF, go_revAT, go_revAL, List.getElem?_cons_zero, List.getElem?_cons_succ, List.set_cons_zero, List.set_cons_succ, List.length_cons, List.length_nil, D.int.injEq, D.bl.injEq, D.str.injEq, Option.some.injEq, exists_eq_left', go_listF, go_listT, go_tupleF, go_tupleT, go_lenF, go_lenT, go_lenS, go_isiS, go_isiI, go_intI, go_intB, go_maxI, it_lst, it_tupD, it_strD, en_lst, en_tup, fr_gN, wipeD]
    refine ⟨rngOk_of (by decide) (by decide), ?_⟩
    refine go_loop (fun rem env M' => DkIs (100 * (6 - rem.length)) [] M' ∧ rem.length ≤ 6 ∧ (∃ l : List Nat, rem = l.map (fun (i : Nat) => .int (0 + (i : Int)))) ∧ ∃ x y z : Option D, env = [some (scriptD ns), some (.ref 1), x, y, z] ∧ (rem.length < 6 → ∃ xs, NamesOk xs ∧ y = some (.lst (xs.map .str)))) ?_ ?_ _ _ _ ⟨h0.mono (Nat.zero_le _), Nat.le_refl 6, ⟨List.range 6, rfl⟩, none, none, none, rfl, fun z => absurd z (by show ¬ 6 < 6; decide)⟩
    · rintro d rem env M' ⟨hd, hr, ⟨l, el⟩, x, y, z, rfl, _⟩
      rw [List.length_cons] at hd hr
      cases l with
      | nil => cases el
      | cons i l =>
        cases el
        refine ⟨trivial, _, rfl, ?_⟩
        rw [go_seq, go_set]
        simp only [go_bin, go_un, go_var, go_c, go_test, go_andT, go_orT, go_notT, go_yes, go_andV, go_if, go_nil, go_cons, go_tup, go_lst, go_lstC, go_cb, go_call, go_meth, go_noPart, go_part, go_sl, go_get, go_retN, go_lc, go_dc, go_iter, go_enum, go_rng, go_rng1, go_rng2, go_rng3, go_disp, go_pnil, go_pcons, go_bdT, go_bdF, go_ok, go_nx, go_rt, go_addI, go_addS, go_addT, go_addL, go_subI, go_mulI, go_mulL, go_modI, go_fdivI, go_powI, go_ltI, go_leI, go_gtI, go_geI, go_eqI, go_eqS, go_neI, go_neS, go_ixF, go_ixT, go_ixS, go_ixD, go_slT, go_slF, go_slR, go_slS, go_revF, go_revCF, go_revAT, go_revAL, List.getElem?_cons_zero, List.getElem?_cons_succ, List.set_cons_zero, List.set_cons_succ, List.length_cons, List.length_nil, D.int.injEq, D.bl.injEq, D.str.injEq, Option.some.injEq, exists_eq_left', go_listF, go_listT, go_tupleF, go_tupleT, go_lenF, go_lenT, go_lenS, go_isiS, go_isiI, go_intI, go_intB, go_maxI, it_lst, it_tupD, it_strD, en_lst, en_tup, fr_gN, wipeD]
        refine ⟨trivial, names_ok hd (by omega) fun xs M1 hx h1 => ?_⟩
        rw [go_seq, go_set]
        simp only [go_bin, go_un, go_var, go_c, go_test, go_andT, go_orT, go_notT, go_yes, go_andV, go_if, go_nil, go_cons, go_tup, go_lst, go_lstC, go_cb, go_call, go_meth, go_noPart, go_part, go_sl, go_get, go_retN, go_lc, go_dc, go_iter, go_enum, go_rng, go_rng1, go_rng2, go_rng3, go_disp, go_pnil, go_pcons, go_bdT, go_bdF, go_ok, go_nx, go_rt, go_addI, go_addS, go_addT, go_addL, go_subI, go_mulI, go_mulL, go_modI, go_fdivI, go_powI, go_ltI, go_leI, go_gtI, go_geI, go_eqI, go_eqS, go_neI, go_neS, go_ixF, go_ixT, go_ixS, go_ixD, go_slT, go_slF, go_slR, go_slS, go_revF, go_revCF, go_revAT, go_revAL, List.getElem?_cons_zero, List.getElem?_cons_succ, List.set_cons_zero, List.set_cons_succ, List.length_cons, List.length_nil, D.int.injEq, D.bl.injEq, D.str.injEq, Option.some.injEq, exists_eq_left', go_listF, go_listT, go_tupleF, go_tupleT, go_lenF, go_lenT, go_lenS, go_isiS, go_isiI, go_intI, go_intB, go_maxI, it_lst, it_tupD, it_strD, en_lst, en_tup, fr_gN, wipeD]
        refine ⟨trivial, draw_ok h1 (by omega) (by decide) (by decide) fun r M2 r0 r1 h2 => ?_⟩
        simp only [go_bin, go_un, go_var, go_c, go_test, go_andT, go_orT, go_notT, go_yes, go_andV, go_if, go_nil, go_cons, go_tup, go_lst, go_lstC, go_cb, go_call, go_meth, go_noPart, go_part, go_sl, go_get, go_retN, go_lc, go_dc, go_iter, go_enum, go_rng, go_rng1, go_rng2, go_rng3, go_disp, go_pnil, go_pcons, go_bdT, go_bdF, go_ok, go_nx, go_rt, go_addI, go_addS, go_addT, go_addL, go_subI, go_mulI, go_mulL, go_modI, go_fdivI, go_powI, go_ltI, go_leI, go_gtI, go_geI, go_eqI, go_eqS, go_neI, go_neS, go_ixF, go_ixT, go_ixS, go_ixD, go_slT, go_slF, go_slR, go_slS, go_revF, go_revCF, go_revAT, go_revAL, List.getElem?_cons_zero, List.getElem?_cons_succ, List.set_cons_zero, List.set_cons_succ, List.length_cons, List.length_nil, D.int.injEq, D.bl.injEq, D.str.injEq, Option.some.injEq, exists_eq_left', go_listF, go_listT, go_tupleF, go_tupleT, go_lenF, go_lenT, go_lenS, go_isiS, go_isiI, go_intI, go_intB, go_maxI, it_lst, it_tupD, it_strD, en_lst, en_tup, fr_gN, wipeD]
        obtain ⟨many, e, m0, m1⟩ : ∃ many : Int, atI [D.int 14, D.int (2 + r)] (if decide (0 < 0 + (i : Int)) = true then 1 else 0) = some (.int many) ∧ 2 ≤ many ∧ many ≤ 14 := by
          split
          · exact ⟨2 + r, at_1, by omega, by omega⟩
          · exact ⟨14, at_0, by decide, by decide⟩
        refine ⟨by decide, _, e, trivial, words_ok ?_⟩
        refine ⟨trivial, sketch_ok h2 (by omega) hx m0 m1 fun ss M3 g gl h3 => ?_⟩
        rw [go_ifS, go_notT]
        simp only [go_bin, go_un, go_var, go_c, go_test, go_andT, go_orT, go_notT, go_yes, go_andV, go_if, go_nil, go_cons, go_tup, go_lst, go_lstC, go_cb, go_call, go_meth, go_noPart, go_part, go_sl, go_get, go_retN, go_lc, go_dc, go_iter, go_enum, go_rng, go_rng1, go_rng2, go_rng3, go_disp, go_pnil, go_pcons, go_bdT, go_bdF, go_ok, go_nx, go_rt, go_addI, go_addS, go_addT, go_addL, go_subI, go_mulI, go_mulL, go_modI, go_fdivI, go_powI, go_ltI, go_leI, go_gtI, go_geI, go_eqI, go_eqS, go_neI, go_neS, go_ixF, go_ixT, go_ixS, go_ixD, go_slT, go_slF, go_slR, go_slS, go_revF, go_revCF, go_revAT, go_revAL, List.getElem?_cons_zero, List.getElem?_cons_succ, List.set_cons_zero, List.set_cons_succ, List.length_cons, List.length_nil, D.int.injEq, D.bl.injEq, D.str.injEq, Option.some.injEq, exists_eq_left', go_listF, go_listT, go_tupleF, go_tupleT, go_lenF, go_lenT, go_lenS, go_isiS, go_isiI, go_intI, go_intB, go_maxI, it_lst, it_tupD, it_strD, en_lst, en_tup, fr_gN, wipeD]
        refine ⟨trivial, right_ok h3 (by omega) hx g (by omega) fun M4 h4 => ⟨true, rfl, ?_⟩⟩
        rw [if_neg (by decide), go_next]
        exact ⟨h4.mono (by omega), by omega, ⟨l, rfl⟩, _, _, _, rfl, fun _ => ⟨xs, hx, rfl⟩⟩
    · rintro env M' ⟨hd, hr, ⟨l, el⟩, x, y, z, rfl, hy⟩
      refine ⟨trivial, ?_⟩
      obtain ⟨xs, hx, rfl⟩ := hy (by decide)
      rw [go_ret]
      simp only [go_bin, go_un, go_var, go_c, go_test, go_andT, go_orT, go_notT, go_yes, go_andV, go_if, go_nil, go_cons, go_tup, go_lst, go_lstC, go_cb, go_call, go_meth, go_noPart, go_part, go_sl, go_get, go_retN, go_lc, go_dc, go_iter, go_enum, go_rng, go_rng1, go_rng2, go_rng3, go_disp, go_pnil, go_pcons, go_bdT, go_bdF, go_ok, go_nx, go_rt, go_addI, go_addS, go_addT, go_addL, go_subI, go_mulI, go_mulL, go_modI, go_fdivI, go_powI, go_ltI, go_leI, go_gtI, go_geI, go_eqI, go_eqS, go_neI, go_neS, go_ixF, go_ixT, go_ixS, go_ixD, go_slT, go_slF, go_slR, go_slS, go_revF, go_revCF, go_revAT, go_revAL, List.getElem?_cons_zero, List.getElem?_cons_succ, List.set_cons_zero, List.set_cons_succ, List.length_cons, List.length_nil, D.int.injEq, D.bl.injEq, D.str.injEq, Option.some.injEq, exists_eq_left', go_listF, go_listT, go_tupleF, go_tupleT, go_lenF, go_lenT, go_lenS, go_isiS, go_isiI, go_intI, go_intB, go_maxI, it_lst, it_tupD, it_strD, en_lst, en_tup, fr_gN, wipeD]
      refine ⟨trivial, chain_ok hx fun ss g gl => ?_⟩
      refine ⟨trivial, right_ok hd (by show 100 * 6 ≤ 700000; decide) hx g (by omega) fun M4 h4 => ⟨true, rfl, ?_⟩⟩
      rw [if_pos rfl]
      refine ⟨trivial, chain_ok hx fun ss g gl => ?_⟩
      rw [go_slT, show (2 : Int) = ((2 : Nat) : Int) from rfl, cut_to, ← List.map_take]
      refine ⟨trivial, right_ok h4 (by show 100 * 6 + 24 ≤ 700000; decide) hx (g.take 2) (by rw [List.length_take]; omega) fun M5 h5 => ?_⟩
      exact fin M5
  obtain ⟨d, M', e, rfl⟩ := main.ok
  exact ⟨M', e⟩
end Wk17
theorem PySem.Challenge.cw_pointhouse_k17_what_hangs_on_what_holds : PySem.Challenge.rw_pointhouse_k17_what_hangs_on_what.Holds := by
  exact Wk17.holds_of fun ns hn _ => Wk17.law_math ns hn

