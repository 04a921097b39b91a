import PyProof.Rows.All
import Wide.All
import OpenK.AllK
import Wide.FinOn
import KE.KStateDown
import Lean
import HandS.ForMost
import HandS.More
import HandS.Exc
import HandS.WordsExc
import HandS.Defaults
import HandS.Wide
import HandS.Style
import HandS.DictComp
import HandS.Head0
import HandS.Head1
import HandS.Head2
import HandS.HeadEnd
import HandS.HeadHook1
import HandS.HeadHook2
import HandS.TupAny
import HandS.TupMul
import HandS.IsInst
import PyProof.DictUpdate
import HandS.StrMore
import KE.KUnpackStar
import KE.GoesMore
import KE.GoesEnum
import HandS.RaiseMore
import HandS.EndBits
import HandS.HeadHook3
import HandS.HeadHook4
import KE.GoesEnumKw
import HandS.NoneIn
import HandS.SetKeys
import HandS.SetBool
import HandS.Text
import PySem.Challenge.RW_pointhouse_k18_sketches_written_and_read
set_option Elab.async false
set_option linter.all false
set_option maxRecDepth 100000
set_option maxHeartbeats 4000000
namespace Ly
open PySem PySem.Spec PyProof.Rows L2

/-! ### data: what a value is, deeply; ref n: the n-th of the cells that may change -/
inductive D where
  | non | bl (b : Bool) | int (i : Int) | str (x : Str) | ty (n : String) | adr (a : Addr)
  | tup (ds : List D) | lst (ds : List D) | scr (ds : List D) | dic (kvs : List (Key × D)) | obj (c : Str) (fs : List (Str × D))
  | ref (n : Nat)
inductive Cell where
  | lst (ds : List D) | dic (kvs : List (Key × D)) | obj (c : Str) (fs : List (Str × D))
abbrev Mem := List Cell
abbrev Env := List (Option D)

theorem nodup_at {α : Type} {N : List α} (hN : N.Nodup) {i j : Nat} {x : α} (a : N[i]? = some x) (b : N[j]? = some x) : i = j := by
  obtain ⟨h1, e1⟩ := List.getElem?_eq_some_iff.mp a
  obtain ⟨h2, e2⟩ := List.getElem?_eq_some_iff.mp b
  exact (List.getElem_inj hN).mp (e1.trans e2.symm)
/-- l: the cells' addresses; z: things that are being built, out of sight -/
structure Wd where
  l : List Addr
  z : List Addr
def Out (L : Wd) (a : Addr) : Prop := a ∉ L.l ∧ a ∉ L.z
def Wd.add (L : Wd) (p : Addr) : Wd := ⟨L.l ++ [p], L.z⟩
def Wd.hide (L : Wd) (p : Addr) : Wd := ⟨L.l, p :: L.z⟩
theorem out_ne {L : Wd} {p a : Addr} (h : Out (L.hide p) a) : a ≠ p := fun z => h.2 (by rw [z]; exact List.mem_cons_self)
/-- a list, a tuple, that stands in the written part -/
def KTup (K : PySem.W.Frag) (a : Addr) (xs : List V) : Prop := ∃ (o : Obj) (its : Array Value) (n : Nat), K.lookup a = some o ∧ o.cls = .type "tuple" ∧ o.data = .seq its n ∧ its.size ≤ sizeLine ∧ Vals xs its.toList
def KLst (K : PySem.W.Frag) (a : Addr) (xs : List V) : Prop := ∃ (o : Obj) (its : Array Value) (n : Nat), K.lookup a = some o ∧ o.cls = .type "list" ∧ o.dict = none ∧ o.data = .seq its n ∧ its.size ≤ sizeLine ∧ Vals xs its.toList

section
variable (K : PySem.W.Frag) (L : Wd) (H : Hp)
mutual
inductive Is : D → V → Prop
  | non : Is .non .non
  | bl (b : Bool) : Is (.bl b) (.bl b)
  | int (i : Int) : Is (.int i) (.int i)
  | str (x : Str) : Is (.str x) (.str x)
  | ty (n : String) : Is (.ty n) (.ty n)
  | adr (a : Addr) : Is (.adr a) (.ref a)
  | tup {ds : List D} {a : Addr} {vs : List V} : Rd H a (.tup vs) → Out L a → IsL ds vs → Is (.tup ds) (.ref a)
  | tupK {ds : List D} {a : Addr} {vs : List V} : KTup K a vs → IsL ds vs → Is (.tup ds) (.ref a)
  | lst {ds : List D} {a : Addr} {vs : List V} : H a = some (.lst vs) → Out L a → IsL ds vs → Is (.lst ds) (.ref a)
  | scr {ds : List D} {a : Addr} {vs : List V} : Rd H a (.lst vs) → Out L a → IsL ds vs → Is (.scr ds) (.ref a)
  | scrK {ds : List D} {a : Addr} {vs : List V} : KLst K a vs → IsL ds vs → Is (.scr ds) (.ref a)
  | dic {kvs : List (Key × D)} {a : Addr} {kws : List (Key × V)} : H a = some (.dK kws) → Out L a → IsKV kvs kws → Is (.dic kvs) (.ref a)
  | obj {c : Str} {fs : List (Str × D)} {a dx : Addr} {gs : List (Str × V)} : H a = some (.ins (He.ga K c) dx gs) → Out L a → IsFs fs gs → Is (.obj c fs) (.ref a)
  | ref {n : Nat} {a : Addr} : L.l[n]? = some a → Is (.ref n) (.ref a)
inductive IsL : List D → List V → Prop
  | nil : IsL [] []
  | cons {d : D} {v : V} {ds : List D} {vs : List V} : Is d v → IsL ds vs → IsL (d :: ds) (v :: vs)
inductive IsKV : List (Key × D) → List (Key × V) → Prop
  | nil : IsKV [] []
  | cons {k : Key} {d : D} {v : V} {ds : List (Key × D)} {vs : List (Key × V)} : Is d v → IsKV ds vs → IsKV ((k, d) :: ds) ((k, v) :: vs)
inductive IsFs : List (Str × D) → List (Str × V) → Prop
  | nil : IsFs [] []
  | cons {k : Str} {d : D} {v : V} {ds : List (Str × D)} {vs : List (Str × V)} : Is d v → IsFs ds vs → IsFs ((k, d) :: ds) ((k, v) :: vs)
end
def CellIs : Cell → Addr → Prop
  | .lst ds, a => ∃ vs, H a = some (.lst vs) ∧ IsL K L H ds vs
  | .dic kvs, a => ∃ kws, H a = some (.dK kws) ∧ IsKV K L H kvs kws
  | .obj c fs, a => ∃ dx gs, H a = some (.ins (He.ga K c) dx gs) ∧ IsFs K L H fs gs
structure MemIs (M : Mem) : Prop where
  len : L.l.length = M.length
  nd : L.l.Nodup
  cell : ∀ (n : Nat) a c, L.l[n]? = some a → M[n]? = some c → CellIs K L H c a
  hid : ∀ a ∈ L.z, a ∉ L.l ∧ ∃ o, H a = some o
structure EnvIs (env : Env) (σ : L2.St) : Prop where
  len : env.length = σ.length
  at_ : ∀ (i : Nat) d, env[i]? = some (some d) → ∃ v, σ[i]? = some (some v) ∧ Is K L H d v
end
/-- what may have come: cells more; what is no cell stays -/
structure Step (L : Wd) (H : Hp) (L' : Wd) (H' : Hp) : Prop where
  more : ∃ l, L'.l = L.l ++ l
  same : L'.z = L.z
  hid : ∀ a ∈ L.z, H' a = H a
  keep : ∀ a o, H a = some o → Out L a → H' a = some o ∧ Out L' a

/-- the same facts of data -/
structure Mv (L : Wd) (H : Hp) (L' : Wd) (H' : Hp) : Prop where
  get : ∀ (n : Nat) a, L.l[n]? = some a → L'.l[n]? = some a
  keep : ∀ a o, H a = some o → Out L a → H' a = some o ∧ Out L' a
section
variable {K : PySem.W.Frag} {L L' L1 L2' : Wd} {H H' H1 H2 : Hp}
theorem Step.refl : Step L H L H := ⟨⟨[], by simp⟩, rfl, fun _ _ => rfl, fun a o e n => ⟨e, n⟩⟩
theorem Step.trans (a : Step L H L1 H1) (b : Step L1 H1 L' H') : Step L H L' H' := by
  obtain ⟨l, e⟩ := a.more
  obtain ⟨m, e'⟩ := b.more
  exact ⟨⟨l ++ m, by rw [e', e, List.append_assoc]⟩, b.same.trans a.same, fun x h => (b.hid x (by rw [a.same]; exact h)).trans (a.hid x h), fun x o h n => b.keep x o (a.keep x o h n).1 (a.keep x o h n).2⟩
theorem Step.mv (s : Step L H L' H') : Mv L H L' H' := ⟨fun n a h => by
  obtain ⟨l, e⟩ := s.more
  rw [e, List.getElem?_append_left (List.getElem?_eq_some_iff.mp h).1]
  exact h, s.keep⟩
theorem Mv.trans (a : Mv L H L1 H1) (b : Mv L1 H1 L' H') : Mv L H L' H' := ⟨fun n x h => b.get n x (a.get n x h), fun x o h n => b.keep x o (a.keep x o h n).1 (a.keep x o h n).2⟩
theorem Mv.refl : Mv L H L H := ⟨fun _ _ h => h, fun _ _ e n => ⟨e, n⟩⟩
theorem rd_mv (s : Mv L H L' H') {a : Addr} {u : HO} (h : Rd H a u) (n : Out L a) : Rd H' a u ∧ Out L' a := by
  rcases h with h | ⟨o, h⟩
  · exact ⟨.inl (s.keep _ _ h n).1, (s.keep _ _ h n).2⟩
  · exact ⟨.inr ⟨o, (s.keep _ _ h n).1⟩, (s.keep _ _ h n).2⟩
mutual
theorem Is.mv (s : Mv L H L' H') : ∀ {d : D} {v : V}, Is K L H d v → Is K L' H' d v
  | _, _, .non => .non
  | _, _, .bl b => .bl b
  | _, _, .int i => .int i
  | _, _, .str x => .str x
  | _, _, .ty n => .ty n
  | _, _, .adr a => .adr a
  | _, _, .tup h n r => .tup (rd_mv s h n).1 (rd_mv s h n).2 (IsL.mv s r)
  | _, _, .tupK h r => .tupK h (IsL.mv s r)
  | _, _, .lst h n r => .lst (s.keep _ _ h n).1 (s.keep _ _ h n).2 (IsL.mv s r)
  | _, _, .scr h n r => .scr (rd_mv s h n).1 (rd_mv s h n).2 (IsL.mv s r)
  | _, _, .scrK h r => .scrK h (IsL.mv s r)
  | _, _, .dic h n r => .dic (s.keep _ _ h n).1 (s.keep _ _ h n).2 (IsKV.mv s r)
  | _, _, .obj h n r => .obj (s.keep _ _ h n).1 (s.keep _ _ h n).2 (IsFs.mv s r)
  | _, _, .ref h => .ref (s.get _ _ h)
theorem IsL.mv (s : Mv L H L' H') : ∀ {ds : List D} {vs : List V}, IsL K L H ds vs → IsL K L' H' ds vs
  | _, _, .nil => .nil
  | _, _, .cons a b => .cons (Is.mv s a) (IsL.mv s b)
theorem IsKV.mv (s : Mv L H L' H') : ∀ {ds : List (Key × D)} {vs : List (Key × V)}, IsKV K L H ds vs → IsKV K L' H' ds vs
  | _, _, .nil => .nil
  | _, _, .cons a b => .cons (Is.mv s a) (IsKV.mv s b)
theorem IsFs.mv (s : Mv L H L' H') : ∀ {ds : List (Str × D)} {vs : List (Str × V)}, IsFs K L H ds vs → IsFs K L' H' ds vs
  | _, _, .nil => .nil
  | _, _, .cons a b => .cons (Is.mv s a) (IsFs.mv s b)
end
theorem Is.step (s : Step L H L' H') {d : D} {v : V} (h : Is K L H d v) : Is K L' H' d v := h.mv s.mv
theorem IsL.step (s : Step L H L' H') {d : List D} {v : List V} (h : IsL K L H d v) : IsL K L' H' d v := h.mv s.mv
theorem IsKV.step (s : Step L H L' H') {d : List (Key × D)} {v : List (Key × V)} (h : IsKV K L H d v) : IsKV K L' H' d v := h.mv s.mv
theorem IsFs.step (s : Step L H L' H') {d : List (Str × D)} {v : List (Str × V)} (h : IsFs K L H d v) : IsFs K L' H' d v := h.mv s.mv
theorem EnvIs.mv (s : Mv L H L' H') {env : Env} {σ : L2.St} (h : EnvIs K L H env σ) : EnvIs K L' H' env σ :=
  ⟨h.len, fun i d e => let ⟨v, a, b⟩ := h.at_ i d e; ⟨v, a, b.mv s⟩⟩
theorem EnvIs.step (s : Step L H L' H') {env : Env} {σ : L2.St} (h : EnvIs K L H env σ) : EnvIs K L' H' env σ := h.mv s.mv
theorem CellIs.mv {c : Cell} {a : Addr} (s : Mv L H L' H') (e : H' a = H a) (h : CellIs K L H c a) : CellIs K L' H' c a := by
  cases c with
  | lst ds => exact let ⟨vs, q, r⟩ := h; ⟨vs, e.trans q, r.mv s⟩
  | dic kvs => exact let ⟨vs, q, r⟩ := h; ⟨vs, e.trans q, r.mv s⟩
  | obj c fs => exact let ⟨dx, vs, q, r⟩ := h; ⟨dx, vs, e.trans q, r.mv s⟩
theorem CellIs.mono {c : Cell} {a : Addr} (s : Step L H L' H') (e : H' a = H a) (h : CellIs K L H c a) : CellIs K L' H' c a := h.mv s.mv e
theorem IsL.length : ∀ {ds : List D} {vs : List V}, IsL K L H ds vs → ds.length = vs.length
  | _, _, .nil => rfl
  | _, _, .cons _ b => by rw [List.length_cons, List.length_cons, IsL.length b]
theorem IsL.append : ∀ {ds es : List D} {vs ws : List V}, IsL K L H ds vs → IsL K L H es ws → IsL K L H (ds ++ es) (vs ++ ws)
  | _, _, _, _, .nil, s => s
  | _, _, _, _, .cons r t, s => .cons r (IsL.append t s)
theorem IsL.get : ∀ {ds : List D} {vs : List V} {i : Nat} {d : D}, IsL K L H ds vs → ds[i]? = some d → ∃ v, vs[i]? = some v ∧ Is K L H d v
  | _, _, _, _, .nil, e => by simp at e
  | _, _, 0, _, .cons r _, e => by simp at e; subst e; exact ⟨_, rfl, r⟩
  | _, _, i + 1, d, .cons _ t, e => by
    obtain ⟨u, h1, h2⟩ := IsL.get (i := i) (d := d) t (by simpa using e)
    exact ⟨u, by simpa using h1, h2⟩
theorem IsL.getV : ∀ {ds : List D} {vs : List V} {i : Nat} {v : V}, IsL K L H ds vs → vs[i]? = some v → ∃ d, ds[i]? = some d ∧ Is K L H d v
  | _, _, _, _, .nil, e => by simp at e
  | _, _, 0, _, .cons r _, e => by simp at e; subst e; exact ⟨_, rfl, r⟩
  | _, _, i + 1, d, .cons _ t, e => by
    obtain ⟨u, h1, h2⟩ := IsL.getV (i := i) (v := d) t (by simpa using e)
    exact ⟨u, by simpa using h1, h2⟩
theorem IsL.set {d : D} {v : V} (r : Is K L H d v) : ∀ {ds : List D} {vs : List V} (i : Nat), IsL K L H ds vs → IsL K L H (ds.set i d) (vs.set i v)
  | _, _, _, .nil => .nil
  | _, _, 0, .cons _ t => .cons r t
  | _, _, i + 1, .cons q t => .cons q (IsL.set r i t)
theorem IsL.take : ∀ {ds : List D} {vs : List V} (n : Nat), IsL K L H ds vs → IsL K L H (ds.take n) (vs.take n)
  | _, _, 0, _ => .nil
  | _, _, _ + 1, .nil => .nil
  | _, _, n + 1, .cons r t => .cons r (IsL.take n t)
theorem IsL.drop : ∀ {ds : List D} {vs : List V} (n : Nat), IsL K L H ds vs → IsL K L H (ds.drop n) (vs.drop n)
  | _, _, 0, r => r
  | _, _, _ + 1, .nil => .nil
  | _, _, n + 1, .cons _ t => IsL.drop n t
theorem IsL.reverse : ∀ {ds : List D} {vs : List V}, IsL K L H ds vs → IsL K L H ds.reverse vs.reverse
  | _, _, .nil => .nil
  | _, _, .cons r t => by
    rw [List.reverse_cons, List.reverse_cons]
    exact (IsL.reverse t).append (.cons r .nil)
theorem EnvIs.set {env : Env} {σ : L2.St} {d : D} {v : V} (h : EnvIs K L H env σ) (i : Nat) (r : Is K L H d v) : EnvIs K L H (env.set i (some d)) (σ.set i (some v)) := by
  refine ⟨by rw [List.length_set, List.length_set, h.len], fun j e q => ?_⟩
  by_cases hj : i = j
  · subst hj
    have hlt : i < env.length := by
      have := (List.getElem?_eq_some_iff.mp q).1
      rwa [List.length_set] at this
    rw [List.getElem?_set_self hlt] at q
    cases q
    exact ⟨v, List.getElem?_set_self (by rw [← h.len]; exact hlt), r⟩
  · rw [List.getElem?_set_ne hj] at q
    obtain ⟨w, a, b⟩ := h.at_ j e q
    exact ⟨w, by rw [List.getElem?_set_ne hj]; exact a, b⟩
theorem EnvIs.drop {env : Env} {σ : L2.St} (h : EnvIs K L H env σ) (i : Nat) : EnvIs K L H (env.set i none) σ := by
  refine ⟨by rw [List.length_set, h.len], fun j e q => ?_⟩
  by_cases hj : i = j
  · subst hj
    have hlt : i < env.length := by
      have := (List.getElem?_eq_some_iff.mp q).1
      rwa [List.length_set] at this
    rw [List.getElem?_set_self hlt] at q
    cases q
  · rw [List.getElem?_set_ne hj] at q
    exact h.at_ j e q
/-! ### cells: new ones, changed ones -/
theorem MemIs.addr {M : Mem} (m : MemIs K L H M) {n : Nat} {c : Cell} (h : M[n]? = some c) : ∃ a, L.l[n]? = some a ∧ CellIs K L H c a := by
  have hl : n < L.l.length := by rw [m.len]; exact (List.getElem?_eq_some_iff.mp h).1
  exact ⟨L.l[n], List.getElem?_eq_getElem hl, m.cell n _ c (List.getElem?_eq_getElem hl) h⟩
theorem CellIs.some {c : Cell} {a : Addr} (h : CellIs K L H c a) : ∃ o, H a = some o := by
  cases c with
  | lst ds => exact let ⟨vs, e, _⟩ := h; ⟨_, e⟩
  | dic kvs => exact let ⟨vs, e, _⟩ := h; ⟨_, e⟩
  | obj c fs => exact let ⟨_, vs, e, _⟩ := h; ⟨_, e⟩
theorem MemIs.there {M : Mem} (m : MemIs K L H M) {a : Addr} (h : a ∈ L.l) : ∃ o, H a = some o := by
  obtain ⟨n, hn⟩ := List.mem_iff_getElem?.mp h
  have hl : n < M.length := by rw [← m.len]; exact (List.getElem?_eq_some_iff.mp hn).1
  exact (m.cell n a _ hn (List.getElem?_eq_getElem hl)).some
theorem MemIs.out {M : Mem} (m : MemIs K L H M) {p : Addr} (hp : H p = none) : Out L p := by
  refine ⟨fun h => ?_, fun h => ?_⟩
  · obtain ⟨u, e⟩ := m.there h
    rw [hp] at e
    cases e
  · obtain ⟨_, u, e⟩ := m.hid p h
    rw [hp] at e
    cases e
/-- a new thing that is no cell -/
theorem Step.new {M : Mem} (m : MemIs K L H M) {p : Addr} {o : HO} (hp : H p = none) : Step L H L (upd H p o) ∧ Out L p := by
  refine ⟨⟨⟨[], by simp⟩, rfl, fun a h => ?_, fun a u e n => ⟨?_, n⟩⟩, m.out hp⟩
  · obtain ⟨_, u, e⟩ := m.hid a h
    exact upd_ne (ne_of_none e hp)
  · rw [upd_ne (ne_of_none e hp)]
    exact e
theorem MemIs.new {M : Mem} (m : MemIs K L H M) {p : Addr} {o : HO} (hp : H p = none) : MemIs K L (upd H p o) M :=
  ⟨m.len, m.nd, fun n a c e q => (m.cell n a c e q).mono (Step.new m hp).1 (upd_ne (fun (z : a = p) => (m.out hp).1 (z ▸ List.mem_of_getElem? e))),
    fun a h => ⟨(m.hid a h).1, let ⟨u, e⟩ := (m.hid a h).2; ⟨u, (upd_ne (ne_of_none e hp)).trans e⟩⟩⟩
/-- a new cell -/
theorem Step.cell {M : Mem} (m : MemIs K L H M) {p : Addr} {o : HO} (hp : H p = none) : Step L H (L.add p) (upd H p o) := by
  refine ⟨⟨[p], rfl⟩, rfl, fun a h => ?_, fun a u e n => ⟨?_, fun h => ?_, n.2⟩⟩
  · obtain ⟨_, u, e⟩ := m.hid a h
    exact upd_ne (ne_of_none e hp)
  · rw [upd_ne (ne_of_none e hp)]
    exact e
  · rcases List.mem_append.mp h with h | h
    · exact n.1 h
    · have : a = p := by simpa using h
      rw [this, hp] at e
      cases e
theorem MemIs.push {M : Mem} (m : MemIs K L H M) {p : Addr} {o : HO} {c : Cell} (hp : H p = none) (hc : CellIs K (L.add p) (upd H p o) c p) : MemIs K (L.add p) (upd H p o) (M ++ [c]) := by
  have hn : p ∉ L.l := (m.out hp).1
  refine ⟨by simp [Wd.add, m.len], ?_, fun n a c' e q => ?_, fun a h => ⟨fun z => ?_, ?_⟩⟩
  · show (L.l ++ [p]).Nodup
    rw [List.nodup_append]
    exact ⟨m.nd, by simp, fun a ha b hb => by
      have : b = p := by simpa using hb
      subst this
      exact fun z => hn (z ▸ ha)⟩
  · have e : (L.l ++ [p])[n]? = some a := e
    by_cases h : n < L.l.length
    · rw [List.getElem?_append_left h] at e
      rw [List.getElem?_append_left (by rw [← m.len]; exact h)] at q
      exact (m.cell n a c' e q).mono (Step.cell m hp) (upd_ne (fun (z : a = p) => hn (z ▸ List.mem_of_getElem? e)))
    · rw [List.getElem?_append_right (by omega)] at e
      rw [List.getElem?_append_right (by rw [← m.len]; omega)] at q
      have hk : n - L.l.length = 0 := by
        have := (List.getElem?_eq_some_iff.mp e).1
        simp at this
        omega
      rw [hk] at e
      rw [show n - M.length = 0 by rw [← m.len]; exact hk] at q
      simp at e q
      subst e q
      exact hc
  · obtain ⟨h1, u, h2⟩ := m.hid a h
    rcases List.mem_append.mp z with z | z
    · exact h1 z
    · have : a = p := by simpa using z
      rw [this, hp] at h2
      cases h2
  · obtain ⟨h1, u, h2⟩ := m.hid a h
    exact ⟨u, (upd_ne (ne_of_none h2 hp)).trans h2⟩
/-- the cell n changed -/
theorem Step.put {M : Mem} (m : MemIs K L H M) {n : Nat} {a : Addr} {o : HO} (h : L.l[n]? = some a) : Step L H L (upd H a o) :=
  ⟨⟨[], by simp⟩, rfl, fun b hb => upd_ne (fun (z : b = a) => (m.hid b hb).1 (by rw [z]; exact List.mem_of_getElem? h)), fun b u e q => ⟨(upd_ne (fun (z : b = a) => q.1 (by rw [z]; exact List.mem_of_getElem? h))).trans e, q⟩⟩
theorem MemIs.put {M : Mem} (m : MemIs K L H M) {n : Nat} {a : Addr} {o : HO} {c : Cell} (h : L.l[n]? = some a) (hc : CellIs K L (upd H a o) c a) : MemIs K L (upd H a o) (M.set n c) := by
  refine ⟨by rw [m.len, List.length_set], m.nd, fun k b c' e q => ?_, fun b hb => ⟨(m.hid b hb).1, ?_⟩⟩
  · by_cases hk : n = k
    · subst hk
      rw [h] at e
      cases e
      have hlt : n < M.length := by rw [← m.len]; exact (List.getElem?_eq_some_iff.mp h).1
      rw [List.getElem?_set_self hlt] at q
      cases q
      exact hc
    · rw [List.getElem?_set_ne hk] at q
      refine (m.cell k b c' e q).mono (Step.put m h) (upd_ne fun z => hk ?_)
      subst z
      exact nodup_at m.nd h e
  · obtain ⟨u, e⟩ := (m.hid b hb).2
    exact ⟨u, (upd_ne (fun (z : b = a) => (m.hid b hb).1 (by rw [z]; exact List.mem_of_getElem? h))).trans e⟩
/-! ### out of sight and back -/
theorem Mv.hide {p : Addr} {o : HO} (hp : H p = none) : Mv L H (L.hide p) (upd H p o) := ⟨fun _ _ h => h, fun a u e n => ⟨(upd_ne (ne_of_none e hp)).trans e, n.1, fun z => by
  rcases List.mem_cons.mp z with z | z
  · exact ne_of_none e hp z
  · exact n.2 z⟩⟩
theorem Out.show {p a : Addr} (h : Out (L.hide p) a) : Out L a := ⟨h.1, fun z => h.2 (List.mem_cons_of_mem _ z)⟩
theorem Mv.show {p : Addr} : Mv (L.hide p) H L H := ⟨fun _ _ h => h, fun _ _ e n => ⟨e, n.show⟩⟩
theorem Mv.built {p : Addr} {o : HO} : Mv (L.hide p) H (L.hide p) (upd H p o) := ⟨fun _ _ h => h, fun _ _ e n => ⟨(upd_ne (out_ne n)).trans e, n⟩⟩
theorem Step.mvHide (s : Step L H L' H') {p : Addr} (hp : H p = none) : Mv L H (L'.hide p) H' := ⟨s.mv.get, fun a u e n => ⟨(s.keep a u e n).1, (s.keep a u e n).2.1, fun z => by
  rcases List.mem_cons.mp z with z | z
  · exact ne_of_none e hp z
  · exact (s.keep a u e n).2.2 z⟩⟩
theorem MemIs.hide {M : Mem} (m : MemIs K L H M) {p : Addr} {o : HO} (hp : H p = none) : MemIs K (L.hide p) (upd H p o) M := by
  refine ⟨m.len, m.nd, fun n a c e q => (m.cell n a c e q).mv (Mv.hide hp) (let ⟨u, z⟩ := (m.cell n a c e q).some; upd_ne (ne_of_none z hp)), fun a h => ?_⟩
  rcases List.mem_cons.mp h with rfl | h
  · exact ⟨(m.out hp).1, o, upd_same⟩
  · obtain ⟨h1, u, h2⟩ := m.hid a h
    exact ⟨h1, u, (upd_ne (ne_of_none h2 hp)).trans h2⟩
theorem MemIs.show {M : Mem} {p : Addr} (m : MemIs K (L.hide p) H M) : MemIs K L H M :=
  ⟨m.len, m.nd, fun n a c e q => (m.cell n a c e q).mv Mv.show rfl, fun a h => m.hid a (List.mem_cons_of_mem _ h)⟩
theorem MemIs.built {M : Mem} {p : Addr} {o : HO} (m : MemIs K (L.hide p) H M) : MemIs K (L.hide p) (upd H p o) M := by
  refine ⟨m.len, m.nd, fun n a c e q => (m.cell n a c e q).mv Mv.built (upd_ne fun (z : a = p) => (m.hid p List.mem_cons_self).1 (z ▸ List.mem_of_getElem? e)), fun a h => ⟨(m.hid a h).1, ?_⟩⟩
  by_cases z : a = p
  · subst z
    exact ⟨o, upd_same⟩
  · obtain ⟨u, e⟩ := (m.hid a h).2
    exact ⟨u, (upd_ne z).trans e⟩
/-- behind a builder's inner step -/
theorem Step.over (s : Step L H L1 H1) {p : Addr} (hp : H p = none) {L' : Wd} (s' : Step (L1.hide p) H1 L' H') : ∃ L3, L' = L3.hide p ∧ Step L H L3 H' := by
  refine ⟨⟨L'.l, L1.z⟩, ?_, ⟨?_, s.same, fun a h => ?_, fun a u e n => ?_⟩⟩
  · have := s'.same
    cases L'
    simp only [Wd.hide] at this ⊢
    rw [this]
  · obtain ⟨l, e⟩ := s.more
    obtain ⟨m, e'⟩ := s'.more
    exact ⟨l ++ m, by show L'.l = _; rw [e', show (L1.hide p).l = L1.l from rfl, e, List.append_assoc]⟩
  · exact (s'.hid a (List.mem_cons_of_mem _ (by rw [s.same]; exact h))).trans (s.hid a h)
  · have ne := ne_of_none e hp
    obtain ⟨h1, h2⟩ := s.keep a u e n
    obtain ⟨h3, h4⟩ := s'.keep a u h1 ⟨h2.1, fun z => by
      rcases List.mem_cons.mp z with z | z
      · exact ne z
      · exact h2.2 z⟩
    exact ⟨h3, h4.1, fun z => h4.2 (by rw [s'.same]; exact List.mem_cons_of_mem _ z)⟩
/-- the builder changes its thing -/
theorem Step.built (s : Step L H L1 H1) {p : Addr} {o : HO} (np : p ∉ L.z) (hp : H p = none) : Step L H L1 (upd H1 p o) := by
  refine ⟨s.more, s.same, fun a h => ?_, fun a u e n => ?_⟩
  · rw [upd_ne (fun (z : a = p) => np (z ▸ h))]
    exact s.hid a h
  · rw [upd_ne (ne_of_none e hp)]
    exact s.keep a u e n
end
end Ly

namespace Ly
open PySem PySem.Spec PyProof.Rows L2

/-! ### results -/
/-- an exception: a built-in class's name, or an own class's; its fields -/
structure Xc where
  bi : Option String
  c : Str
  fs : List (Str × D)
inductive Res (α : Type) where
  | ok (a : α) (M : Mem) | exc (x : Xc) (M : Mem) | bad
inductive ResS where
  | nx (env : Env) (M : Mem) | rt (d : D) (M : Mem) | bk (env : Env) (M : Mem) | ct (env : Env) (M : Mem) | exc (x : Xc) (M : Mem) | bad
def Res.bind {α β : Type} (r : Res α) (f : α → Mem → Res β) : Res β := match r with
  | .ok a M => f a M
  | .exc x M => .exc x M
  | .bad => .bad
def Res.bindS {α : Type} (r : Res α) (f : α → Mem → ResS) : ResS := match r with
  | .ok a M => f a M
  | .exc x M => .exc x M
  | .bad => .bad
abbrev ME := Env → Mem → Res D
abbrev MT := Env → Mem → Res Bool
abbrev MA := Env → Mem → Res (List D)
abbrev MS := Env → Mem → ResS
abbrev MF := List D → Mem → Res D

def XcIs (K : PySem.W.Frag) (L : Wd) (H : Hp) (x : Xc) (cls : Value) (d : Option Addr) : Prop :=
  (match x.bi with
    | some n => cls = .type n
    | none => cls = .ref (He.ga K x.c)) ∧
  match x.fs with
    | [] => d = none
    | f :: fs => ∃ dd gs, d = some dd ∧ H dd = some (.xd gs) ∧ Out L dd ∧ IsFs K L H (f :: fs) gs
theorem XcIs.step {K : PySem.W.Frag} {L L' : Wd} {H H' : Hp} {x : Xc} {cls : Value} {d : Option Addr} (s : Step L H L' H') (h : XcIs K L H x cls d) : XcIs K L' H' x cls d := by
  refine ⟨h.1, ?_⟩
  have h2 := h.2
  split at h2
  · exact h2
  · obtain ⟨dd, gs, e, q, n, r⟩ := h2
    exact ⟨dd, gs, e, (s.keep _ _ q n).1, (s.keep _ _ q n).2, r.step s⟩

section
variable {α β γ δ : Type}
def Fin (Rl : Wd → Hp → α → β → Prop) (K : PySem.W.Frag) (E : XK) (L : Wd) (H : Hp) (r : Res α) (Q : β → Hp → Prop) : Prop := match r with
  | .ok a M => ∀ L' H' b, Step L H L' H' → MemIs K L' H' M → Rl L' H' a b → Q b H'
  | .exc x M => ∀ L' H' cls d, Step L H L' H' → MemIs K L' H' M → XcIs K L' H' x cls d → E cls d H'
  | .bad => False
def FinS (K : PySem.W.Frag) (E : XK) (L : Wd) (H : Hp) (r : ResS) (N : Ends) : Prop := match r with
  | .nx env M => ∀ L' H' σ', Step L H L' H' → MemIs K L' H' M → EnvIs K L' H' env σ' → N.nx σ' H'
  | .bk env M => ∀ L' H' σ', Step L H L' H' → MemIs K L' H' M → EnvIs K L' H' env σ' → N.bk σ' H'
  | .ct env M => ∀ L' H' σ', Step L H L' H' → MemIs K L' H' M → EnvIs K L' H' env σ' → N.ct σ' H'
  | .rt d M => ∀ L' H' v, Step L H L' H' → MemIs K L' H' M → Is K L' H' d v → N.rt v H'
  | .exc x M => ∀ L' H' cls d, Step L H L' H' → MemIs K L' H' M → XcIs K L' H' x cls d → E cls d H'
  | .bad => False
variable {K : PySem.W.Frag} {E : XK} {L L1 : Wd} {H H1 : Hp} {Rl : Wd → Hp → α → β → Prop} {Rm : Wd → Hp → γ → δ → Prop}
theorem Fin.step {r : Res α} {Q : β → Hp → Prop} (s : Step L H L1 H1) (h : Fin Rl K E L H r Q) : Fin Rl K E L1 H1 r Q := by
  cases r with
  | ok a M => exact fun L' H' b s' m q => h L' H' b (s.trans s') m q
  | exc x M => exact fun L' H' c d s' m q => h L' H' c d (s.trans s') m q
  | bad => exact h
theorem FinS.step {r : ResS} {N : Ends} (s : Step L H L1 H1) (h : FinS K E L H r N) : FinS K E L1 H1 r N := by
  cases r with
  | nx a M => exact fun L' H' b s' m q => h L' H' b (s.trans s') m q
  | bk a M => exact fun L' H' b s' m q => h L' H' b (s.trans s') m q
  | ct a M => exact fun L' H' b s' m q => h L' H' b (s.trans s') m q
  | rt a M => exact fun L' H' b s' m q => h L' H' b (s.trans s') m q
  | exc x M => exact fun L' H' c d s' m q => h L' H' c d (s.trans s') m q
  | bad => exact h
theorem Fin.bind {r : Res α} {f : α → Mem → Res γ} {Q : δ → Hp → Prop} (h : Fin Rm K E L H (r.bind f) Q) :
    Fin Rl K E L H r (fun b H1 => ∃ a M1 L1, Step L H L1 H1 ∧ MemIs K L1 H1 M1 ∧ Rl L1 H1 a b ∧ Fin Rm K E L1 H1 (f a M1) Q) := by
  cases r with
  | ok a M => exact fun L' H' b s m q => ⟨a, M, L', s, m, q, Fin.step s h⟩
  | exc x M => exact h
  | bad => exact h
theorem Fin.bindS {r : Res α} {f : α → Mem → ResS} {N : Ends} (h : FinS K E L H (r.bindS f) N) :
    Fin Rl K E L H r (fun b H1 => ∃ a M1 L1, Step L H L1 H1 ∧ MemIs K L1 H1 M1 ∧ Rl L1 H1 a b ∧ FinS K E L1 H1 (f a M1) N) := by
  cases r with
  | ok a M => exact fun L' H' b s m q => ⟨a, M, L', s, m, q, FinS.step s h⟩
  | exc x M => exact h
  | bad => exact h
theorem Fin.imp {r : Res α} {Q Q' : β → Hp → Prop} (h : Fin Rl K E L H r Q) (hq : ∀ b H', Q b H' → Q' b H') : Fin Rl K E L H r Q' := by
  cases r with
  | ok a M => exact fun L' H' b s m q => hq _ _ (h L' H' b s m q)
  | exc x M => exact h
  | bad => exact h
theorem Fin.end_ {a : α} {M : Mem} {Q : β → Hp → Prop} (h : Fin Rl K E L H (.ok a M) Q) (m : MemIs K L H M) {b : β} (r : Rl L H a b) : Q b H := h L H b Step.refl m r
end

/-! ### readings by functions over data -/
abbrev RB : Wd → Hp → Bool → Bool → Prop := fun _ _ a b => a = b
section
variable (K : PySem.W.Frag) (E : XK)
def tD (m : ME) : TE := fun σ H Q => ∃ env L M, EnvIs K L H env σ ∧ MemIs K L H M ∧ Fin (Is K) K E L H (m env M) Q
def tTD (m : MT) : TT := fun σ H Q => ∃ env L M, EnvIs K L H env σ ∧ MemIs K L H M ∧ Fin RB K E L H (m env M) Q
def tAD (m : MA) : TA := fun σ H Q => ∃ env L M, EnvIs K L H env σ ∧ MemIs K L H M ∧ Fin (IsL K) K E L H (m env M) Q
def sD (m : MS) : TS := fun N σ H => ∃ env L M, EnvIs K L H env σ ∧ MemIs K L H M ∧ FinS K E L H (m env M) N
end
end Ly
namespace L2
open PySem PySem.Spec PyProof.Rows
section
variable {X : Cx}
theorem PE.imp {e : Expr} {t t' : TE} (h : PE X e t) (i : ∀ σ H Q, t' σ H Q → t σ H Q) : PE X e t' := ⟨fun pins s σ H Q I q => h.run pins s σ H Q I (i σ H Q q)⟩
theorem PT.imp {e : Expr} {t t' : TT} (h : PT X e t) (i : ∀ σ H Q, t' σ H Q → t σ H Q) : PT X e t' := ⟨fun pins s σ H Q I q => h.run pins s σ H Q I (i σ H Q q)⟩
theorem PW.imp {e : Expr} {t t' : TT} (h : PW X e t) (i : ∀ σ H Q, t' σ H Q → t σ H Q) : PW X e t' := ⟨fun w pins s σ H Q I q => h.run w pins s σ H Q I (i σ H Q q)⟩
theorem PA.imp {e : List Expr} {t t' : TA} (h : PA X e t) (i : ∀ σ H Q, t' σ H Q → t σ H Q) : PA X e t' := ⟨fun p pins s σ H Q I q => h.run p pins s σ H Q I (i σ H Q q)⟩
theorem PS.imp {e : Stmt} {t t' : TS} (h : PS X e t) (i : ∀ N σ H, t' N σ H → t N σ H) : PS X e t' := ⟨fun pins s σ H N I q => h.run pins s σ H N I (i N σ H q)⟩
theorem PSs.imp {e : List Stmt} {t t' : TS} (h : PSs X e t) (i : ∀ N σ H, t' N σ H → t N σ H) : PSs X e t' := ⟨fun pins s σ H N I q => h.run pins s σ H N I (i N σ H q)⟩
theorem PI.imp {tg e : Expr} {t t' : TI} (h : PI X tg e t) (i : ∀ σ H Q, t' σ H Q → t σ H Q) : PI X tg e t' := ⟨fun pins s σ H Q I q => h.run pins s σ H Q I (i σ H Q q)⟩
theorem PG.imp {e : Expr} {t t' : TG} (h : PG X e t) (i : ∀ v σ H Q, t' v σ H Q → t v σ H Q) : PG X e t' := ⟨fun pins s σ H v u Q I r q => h.run pins s σ H v u Q I r (i v σ H Q q)⟩
end
end L2
namespace Ly
open PySem PySem.Spec PyProof.Rows L2
/-! ### the ground and the context -/
structure Gd where
  P : Program
  w : World
  K : PySem.W.Frag
  mg : Str → Option Value
  base : Heap
def gdOf (X : Cx) : Gd := ⟨X.prog, X.w, X.K, X.mg, X.base⟩
/-- N: the names by slot; sc: the scope; k: the room; E: what is wanted of an exception -/
structure Cq (G : Gd) (k : Nat) (E : XK) (N : List Str) (sc : Scope) (X : Cx) : Prop where
  g : gdOf X = G
  n : X.N = N
  nd : N.Nodup
  scq : X.env.scope = sc
  calm : X.calm = true
  room : Room k X.A
  pass : Passes (L2.CX X.prog X.w) X E
  po : PassesOwn (model X.prog X.w) X.A X.env X.xe
  kd : sc.kind = ScopeKind.function
  gd : X.A.guards = some []

section
variable {G : Gd} {k : Nat} {E : XK} {N : List Str} {sc : Scope} {X : Cx}

/-! ### names, constants -/
def mVar (i : Nat) : ME := fun env M => match env[i]? with
  | some (some d) => .ok d M
  | _ => .bad
def mC (d : D) : ME := fun _ M => .ok d M
theorem ce_var {i : Nat} {x : Str} {pos : Pos} (c : Cq G k E N sc X) (hi : N[i]? = some x) (hv : Vis sc x) (hd : (x == ("__debug__" : Str)) = false := by decide +kernel) (hcd : (x == ("__classdict__" : Str)) = false := by decide +kernel) :
    PE X (.Name x pos) (tD G.K E (mVar i)) := by
  refine (pe_var (i := i) (by rw [c.n]; exact hi) (by rw [c.scq]; exact hv) hd hcd).imp fun σ H Q ⟨env, L, M, he, hm, h⟩ => ?_
  unfold mVar at h
  split at h
  · rename_i d e
    obtain ⟨v, e1, r⟩ := he.at_ i d e
    exact ⟨v, e1, h.end_ hm r⟩
  · exact h.elim
theorem ce_c {e : Expr} {d : D} {v : V} (h : PE X e (tC v)) (r : ∀ L H, Is G.K L H d v) : PE X e (tD G.K E (mC d)) :=
  h.imp fun σ H Q ⟨env, L, M, he, hm, q⟩ => q.end_ hm (r L H)
theorem ce_int {i : Int} {j pos} : PE X (.Constant (.int i) j pos) (tD G.K E (mC (.int i))) := ce_c pe_int fun _ _ => .int i
theorem ce_bl {b : Bool} {j pos} : PE X (.Constant (.bool b) j pos) (tD G.K E (mC (.bl b))) := ce_c pe_bl fun _ _ => .bl b
theorem ce_non {j pos} : PE X (.Constant .none j pos) (tD G.K E (mC .non)) := ce_c pe_non fun _ _ => .non
theorem ce_str {x : Str} {j pos} : PE X (.Constant (.str x) j pos) (tD G.K E (mC (.str x))) := ce_c pe_str fun _ _ => .str x
/-- a global's name as a value -/
theorem ce_glob {x : Str} {d : D} {v : V} {u : Value} {pos : Pos} (c : Cq G k E N sc X) (hg : sc.names.lookup x = some .globalImplicit) (hm : G.mg x = some u) (r : RelV v u) (rd : ∀ L H, Is G.K L H d v) (hd : (x == ("__debug__" : Str)) = false := by decide +kernel) :
    PE X (.Name x pos) (tD G.K E (mC d)) := by
  obtain rfl := c.g
  exact ce_c (pe_glob (show X.env.scope.names.lookup x = _ by rw [c.scq]; exact hg) hm r hd) rd
theorem ce_bltn {x : Str} {d : D} {v : V} {u : Value} {pos : Pos} (c : Cq G k E N sc X) (hg : sc.names.lookup x = some .globalImplicit) (hm : G.mg x = none) (hv : bootBuiltins x = some u) (r : RelV v u) (rd : ∀ L H, Is G.K L H d v)
    (hn : x ≠ "__name__" := by decide +kernel) (hd : (x == ("__debug__" : Str)) = false := by decide +kernel) : PE X (.Name x pos) (tD G.K E (mC d)) := by
  obtain rfl := c.g
  exact ce_c (pe_bltn (show X.env.scope.names.lookup x = _ by rw [c.scq]; exact hg) hm hv r hn hd) rd

/-! ### operators -/
def RS2 (K : PySem.W.Frag) (r : R2) (op : D → D → Mem → Res D) : Prop := ∀ (E : XK) (L : Wd) (H : Hp) (M : Mem) (d e : D) (x y : V) (Q : VK), MemIs K L H M → Is K L H d x → Is K L H e y → Fin (Is K) K E L H (op d e M) Q → r x y H Q
def RS1 (K : PySem.W.Frag) (r : V → Hp → VK → Prop) (op : D → Mem → Res D) : Prop := ∀ (E : XK) (L : Wd) (H : Hp) (M : Mem) (d : D) (x : V) (Q : VK), MemIs K L H M → Is K L H d x → Fin (Is K) K E L H (op d M) Q → r x H Q
def RSC (K : PySem.W.Frag) (r : List V → Hp → VK → Prop) (f : MF) : Prop := ∀ (E : XK) (L : Wd) (H : Hp) (M : Mem) (ds : List D) (xs : List V) (Q : VK), MemIs K L H M → IsL K L H ds xs → Fin (Is K) K E L H (f ds M) Q → r xs H Q
def mBin (op : D → D → Mem → Res D) (ma mb : ME) : ME := fun env M => (ma env M).bind fun d M1 => (mb env M1).bind fun e M2 => op d e M2
def mUn (op : D → Mem → Res D) (ma : ME) : ME := fun env M => (ma env M).bind fun d M1 => op d M1
variable {a b : Expr} {ma mb : ME} {pos : Pos}
theorem op_sim {r : R2} {op : D → D → Mem → Res D} (hr : RS2 G.K r op) {σ : L2.St} {H : Hp} {Q : VK} (h : tD G.K E (mBin op ma mb) σ H Q) : tOp r (tD G.K E ma) (tD G.K E mb) σ H Q := by
  obtain ⟨env, L, M, he, hm, h⟩ := h
  refine ⟨env, L, M, he, hm, Fin.imp (Fin.bind h) fun x H1 ⟨d, M1, L1, s1, m1, r1, h1⟩ => ?_⟩
  refine ⟨env, L1, M1, he.step s1, m1, Fin.imp (Fin.bind h1) fun y H2 ⟨e, M2, L2, s2, m2, r2, h2⟩ => ?_⟩
  exact hr E L2 H2 M2 d e x y Q m2 (r1.step s2) r2 h2
theorem ce_op {o : Operator} {r : R2} {op : D → D → Mem → Res D} (ho : OpR X (binaryOp o) r) (hr : RS2 G.K r op) (ha : PE X a (tD G.K E ma)) (hb : PE X b (tD G.K E mb)) : PE X (.BinOp a o b pos) (tD G.K E (mBin op ma mb)) :=
  (pe_op ho ha hb).imp fun _ _ _ h => op_sim hr h
theorem ce_un {o : UnaryOp} {r : V → Hp → VK → Prop} {op : D → Mem → Res D} (ho : UnR X (unaryOp o) r) (hr : RS1 G.K r op) (ha : PE X a (tD G.K E ma)) : PE X (.UnaryOp o a pos) (tD G.K E (mUn op ma)) := by
  refine (pe_un ho ha).imp fun σ H Q ⟨env, L, M, he, hm, h⟩ => ?_
  refine ⟨env, L, M, he, hm, Fin.imp (Fin.bind h) fun x H1 ⟨d, M1, L1, s1, m1, r1, h1⟩ => ?_⟩
  exact hr E L1 H1 M1 d x Q m1 r1 h1
theorem ce_cmp {o : CmpOp} {r : R2} {op : D → D → Mem → Res D} (ho : OpR X (compareOp o) r) (hr : RS2 G.K r op) (ha : PE X a (tD G.K E ma)) (hb : PE X b (tD G.K E mb)) (hm : behindInMarks o b = false) : PE X (.Compare a [o] [b] pos) (tD G.K E (mBin op ma mb)) :=
  (pe_cmpR ho ha hb hm).imp fun _ _ _ h => op_sim hr h
/-- a value that must be a truth, as a test -/
def asB (r : Res D) : Res Bool := r.bind fun d M => match d with
  | .bl b => .ok b M
  | _ => .bad
def mTest (m : ME) : MT := fun env M => asB (m env M)
theorem test_sim {K : PySem.W.Frag} {L : Wd} {H : Hp} {r : Res D} {Q : Bool → Hp → Prop} (h : Fin RB K E L H (asB r) Q) : Fin (Is K) K E L H r (fun x H' => ∃ k, x = .bl k ∧ Q k H') := by
  refine Fin.imp (Fin.bind h) fun x H1 ⟨d, M1, L1, s1, m1, r1, h1⟩ => ?_
  cases r1 with
  | bl b => exact ⟨b, rfl, h1.end_ m1 rfl⟩
  | _ => exact h1.elim
theorem ct_cmp {o : CmpOp} {r : R2} {op : D → D → Mem → Res D} (ho : OpR X (compareOp o) r) (hr : RS2 G.K r op) (ha : PE X a (tD G.K E ma)) (hb : PE X b (tD G.K E mb)) (hm : behindInMarks o b = false) : PT X (.Compare a [o] [b] pos) (tTD G.K E (mTest (mBin op ma mb))) :=
  (pt_cmpR ho ha hb hm).imp fun _ _ _ ⟨env, L, M, he, hm, h⟩ => op_sim hr ⟨env, L, M, he, hm, test_sim h⟩
theorem ct_val {e : Expr} {m : ME} (h : PE X e (tD G.K E m)) (he : ∀ whole, isTrue e X.env whole = (do let v ← whole; standAt e.pos; holding [v] (truthy v)) := by intro _; rfl) : PT X e (tTD G.K E (mTest m)) :=
  (pt_val h he).imp fun _ _ _ ⟨env, L, M, he, hm, h⟩ => ⟨env, L, M, he, hm, test_sim h⟩
/-! ### and, or, not, if -/
def mAndT (a b : MT) : MT := fun env M => (a env M).bind fun c M1 => if c then b env M1 else .ok false M1
def mOrT (a b : MT) : MT := fun env M => (a env M).bind fun c M1 => if c then .ok true M1 else b env M1
def mNotT (a : MT) : MT := fun env M => (a env M).bind fun c M1 => .ok (!c) M1
variable {ta tb : MT} {rest : List Expr}
theorem cw_one_and (h : PT X a (tTD G.K E ta)) : PW X (.BoolOp .And [a] pos) (tTD G.K E ta) := pw_and1 h
theorem cw_one_or (h : PT X a (tTD G.K E ta)) : PW X (.BoolOp .Or [a] pos) (tTD G.K E ta) := pw_or1 h
theorem and_sim {σ : L2.St} {H : Hp} {Q : Bool → Hp → Prop} (h : tTD G.K E (mAndT ta tb) σ H Q) : tAnd (tTD G.K E ta) (tTD G.K E tb) σ H Q := by
  obtain ⟨env, L, M, he, hm, h⟩ := h
  refine ⟨env, L, M, he, hm, Fin.imp (Fin.bind h) fun x H1 ⟨d, M1, L1, s1, m1, r1, h1⟩ => ?_⟩
  cases r1
  cases x with
  | true =>
    rw [if_pos rfl]
    exact ⟨env, L1, M1, he.step s1, m1, h1⟩
  | false =>
    rw [if_neg Bool.false_ne_true]
    exact h1.end_ m1 rfl
theorem or_sim {σ : L2.St} {H : Hp} {Q : Bool → Hp → Prop} (h : tTD G.K E (mOrT ta tb) σ H Q) : tOr (tTD G.K E ta) (tTD G.K E tb) σ H Q := by
  obtain ⟨env, L, M, he, hm, h⟩ := h
  refine ⟨env, L, M, he, hm, Fin.imp (Fin.bind h) fun x H1 ⟨d, M1, L1, s1, m1, r1, h1⟩ => ?_⟩
  cases r1
  cases x with
  | true =>
    rw [if_pos rfl]
    exact h1.end_ m1 rfl
  | false =>
    rw [if_neg Bool.false_ne_true]
    exact ⟨env, L1, M1, he.step s1, m1, h1⟩
theorem cw_and (ha : PT X a (tTD G.K E ta)) (hb : PW X (.BoolOp .And (b :: rest) pos) (tTD G.K E tb)) : PW X (.BoolOp .And (a :: b :: rest) pos) (tTD G.K E (mAndT ta tb)) :=
  (pw_and ha hb).imp fun _ _ _ h => and_sim h
theorem cw_or (ha : PT X a (tTD G.K E ta)) (hb : PW X (.BoolOp .Or (b :: rest) pos) (tTD G.K E tb)) : PW X (.BoolOp .Or (a :: b :: rest) pos) (tTD G.K E (mOrT ta tb)) :=
  (pw_or ha hb).imp fun _ _ _ h => or_sim h
theorem ct_not (ha : PT X a (tTD G.K E ta)) : PT X (.UnaryOp .Not a pos) (tTD G.K E (mNotT ta)) := by
  refine (pt_not ha).imp fun σ H Q ⟨env, L, M, he, hm, h⟩ => ?_
  refine ⟨env, L, M, he, hm, Fin.imp (Fin.bind h) fun x H1 ⟨d, M1, L1, s1, m1, r1, h1⟩ => ?_⟩
  cases r1
  exact h1.end_ m1 rfl
/-- .. as values: truths -/
def mAndV (a b : ME) : ME := fun env M => (a env M).bind fun c M1 => match c with
  | .bl true => b env M1
  | .bl false => .ok (.bl false) M1
  | _ => .bad
def mOrV (a b : ME) : ME := fun env M => (a env M).bind fun c M1 => match c with
  | .bl true => .ok (.bl true) M1
  | .bl false => b env M1
  | _ => .bad
def mNotV (a : ME) : ME := fun env M => (a env M).bind fun c M1 => match c with
  | .bl b => .ok (.bl (!b)) M1
  | _ => .bad
theorem ce_one {o} (h : PE X a (tD G.K E ma)) : PE X (.BoolOp o [a] pos) (tD G.K E ma) := pe_one h
theorem ce_and (ha : PE X a (tD G.K E ma)) (hb : PE X (.BoolOp .And (b :: rest) pos) (tD G.K E mb)) : PE X (.BoolOp .And (a :: b :: rest) pos) (tD G.K E (mAndV ma mb)) := by
  refine (pe_and ha hb).imp fun σ H Q ⟨env, L, M, he, hm, h⟩ => ?_
  refine ⟨env, L, M, he, hm, Fin.imp (Fin.bind h) fun x H1 ⟨d, M1, L1, s1, m1, r1, h1⟩ => ?_⟩
  cases r1 with
  | bl c =>
    refine ⟨c, rfl, ?_⟩
    cases c with
    | true =>
      rw [if_pos rfl]
      exact ⟨env, L1, M1, he.step s1, m1, h1⟩
    | false =>
      rw [if_neg Bool.false_ne_true]
      exact h1.end_ m1 (.bl false)
  | _ => exact h1.elim
theorem ce_or (ha : PE X a (tD G.K E ma)) (hb : PE X (.BoolOp .Or (b :: rest) pos) (tD G.K E mb)) : PE X (.BoolOp .Or (a :: b :: rest) pos) (tD G.K E (mOrV ma mb)) := by
  refine (pe_or ha hb).imp fun σ H Q ⟨env, L, M, he, hm, h⟩ => ?_
  refine ⟨env, L, M, he, hm, Fin.imp (Fin.bind h) fun x H1 ⟨d, M1, L1, s1, m1, r1, h1⟩ => ?_⟩
  cases r1 with
  | bl c =>
    refine ⟨c, rfl, ?_⟩
    cases c with
    | true =>
      rw [if_pos rfl]
      exact h1.end_ m1 (.bl true)
    | false =>
      rw [if_neg Bool.false_ne_true]
      exact ⟨env, L1, M1, he.step s1, m1, h1⟩
  | _ => exact h1.elim
theorem ce_not (ha : PE X a (tD G.K E ma)) : PE X (.UnaryOp .Not a pos) (tD G.K E (mNotV ma)) := by
  refine (pe_not ha).imp fun σ H Q ⟨env, L, M, he, hm, h⟩ => ?_
  refine ⟨env, L, M, he, hm, Fin.imp (Fin.bind h) fun x H1 ⟨d, M1, L1, s1, m1, r1, h1⟩ => ?_⟩
  cases r1 with
  | bl c => exact ⟨c, rfl, h1.end_ m1 (.bl _)⟩
  | _ => exact h1.elim
def mIf (t : MT) (a b : ME) : ME := fun env M => (t env M).bind fun c M1 => if c then a env M1 else b env M1
theorem ce_if {c : Expr} (hc : PT X c (tTD G.K E ta)) (ha : PE X a (tD G.K E ma)) (hb : PE X b (tD G.K E mb)) : PE X (.IfExp c a b pos) (tD G.K E (mIf ta ma mb)) := by
  refine (pe_ifExp hc ha hb).imp fun σ H Q ⟨env, L, M, he, hm, h⟩ => ?_
  refine ⟨env, L, M, he, hm, Fin.imp (Fin.bind h) fun x H1 ⟨d, M1, L1, s1, m1, r1, h1⟩ => ?_⟩
  cases r1
  cases x with
  | true =>
    rw [if_pos rfl]
    exact ⟨env, L1, M1, he.step s1, m1, h1⟩
  | false =>
    rw [if_neg Bool.false_ne_true]
    exact ⟨env, L1, M1, he.step s1, m1, h1⟩
/-! ### arguments, displays -/
def mNil : MA := fun _ M => .ok [] M
def mCons (a : ME) (r : MA) : MA := fun env M => (a env M).bind fun d M1 => (r env M1).bind fun ds M2 => .ok (d :: ds) M2
variable {es : List Expr} {mr : MA}
theorem ca_nil : PA X [] (tAD G.K E mNil) := pa_nil.imp fun σ H Q ⟨env, L, M, he, hm, h⟩ => h.end_ hm .nil
theorem ca_cons (ha : PE X a (tD G.K E ma)) (hr : PA X es (tAD G.K E mr)) (hs : starEach (a :: es) X.env = (false, eval a X.env) :: starEach es X.env := by rfl) : PA X (a :: es) (tAD G.K E (mCons ma mr)) := by
  refine (pa_cons ha hr hs).imp fun σ H Q ⟨env, L, M, he, hm, h⟩ => ?_
  refine ⟨env, L, M, he, hm, Fin.imp (Fin.bind h) fun x H1 ⟨d, M1, L1, s1, m1, r1, h1⟩ => ?_⟩
  refine ⟨env, L1, M1, he.step s1, m1, Fin.imp (Fin.bind h1) fun y H2 ⟨e, M2, L2, s2, m2, r2, h2⟩ => ?_⟩
  exact h2.end_ m2 (.cons (r1.step s2) r2)
def szOk (n : Nat) : Bool := decide (n ≤ 100000)
theorem szOk.le {n : Nat} (h : szOk n = true) : n ≤ sizeLine := Nat.le_trans (of_decide_eq_true h) (by decide)
theorem szOk.lt {n : Nat} (h : szOk n = true) : n < sizeLine := Nat.lt_of_le_of_lt (of_decide_eq_true h) (by decide)
def mTup (r : MA) : ME := fun env M => (r env M).bind fun ds M1 => if szOk ds.length then .ok (.tup ds) M1 else .bad
def mLst (r : MA) : ME := fun env M => (r env M).bind fun ds M1 => if szOk ds.length then .ok (.lst ds) M1 else .bad
/-- a list that will be changed: a cell -/
def mLstC (r : MA) : ME := fun env M => (r env M).bind fun ds M1 => if szOk ds.length then .ok (.ref M1.length) (M1 ++ [.lst ds]) else .bad
theorem ce_tup {x1} (h : PA X es (tAD G.K E mr)) : PE X (.Tuple es x1 pos) (tD G.K E (mTup mr)) := by
  refine (pe_tup h).imp fun σ H Q ⟨env, L, M, he, hm, h⟩ => ?_
  refine ⟨env, L, M, he, hm, Fin.imp (Fin.bind h) fun x H1 ⟨d, M1, L1, s1, m1, r1, h1⟩ => ?_⟩
  split at h1
  · rename_i hz
    refine ⟨by rw [← r1.length]; exact szOk.le hz, fun p hp => ?_⟩
    have st := Step.new (o := .tup x) m1 hp
    exact h1 L1 _ _ st.1 (m1.new hp) (.tup (.inl upd_same) st.2 (r1.step st.1))
  · exact h1.elim
theorem ce_lst (h : PA X es (tAD G.K E mr)) : PE X (.List es pos) (tD G.K E (mLst mr)) := by
  refine (pe_lst h).imp fun σ H Q ⟨env, L, M, he, hm, h⟩ => ?_
  refine ⟨env, L, M, he, hm, Fin.imp (Fin.bind h) fun x H1 ⟨d, M1, L1, s1, m1, r1, h1⟩ => ?_⟩
  split at h1
  · rename_i hz
    refine ⟨by rw [← r1.length]; exact szOk.le hz, fun p hp => ?_⟩
    have st := Step.new (o := .lst x) m1 hp
    exact h1 L1 _ _ st.1 (m1.new hp) (.lst upd_same st.2 (r1.step st.1))
  · exact h1.elim
theorem ce_lstC (h : PA X es (tAD G.K E mr)) : PE X (.List es pos) (tD G.K E (mLstC mr)) := by
  refine (pe_lst h).imp fun σ H Q ⟨env, L, M, he, hm, h⟩ => ?_
  refine ⟨env, L, M, he, hm, Fin.imp (Fin.bind h) fun x H1 ⟨d, M1, L1, s1, m1, r1, h1⟩ => ?_⟩
  split at h1
  · rename_i hz
    refine ⟨by rw [← r1.length]; exact szOk.le hz, fun p hp => ?_⟩
    have st := Step.cell (o := .lst x) m1 hp
    refine h1 (L1.add p) _ _ st (m1.push hp ⟨x, upd_same, r1.step st⟩) (.ref ?_)
    rw [← m1.len]
    simp [Wd.add]
  · exact h1.elim
end
end Ly

namespace Ly
open PySem PySem.Spec PyProof.Rows L2
section
variable {G : Gd} {k : Nat} {E : XK} {N : List Str} {sc : Scope} {X : Cx} {a b e : Expr} {ma mb : ME} {pos : Pos} {st : Stmt} {rest : List Stmt} {m m' : MS}
/-! ### blocks and small statements -/
def mSeq (a b : MS) : MS := fun env M => match a env M with
  | .nx env' M' => b env' M'
  | r => r
def mNext : MS := fun env M => .nx env M
theorem css_nil : PSs X [] (sD G.K E mNext) := pss_nil.imp fun T σ H ⟨env, L, M, he, hm, h⟩ => h L H σ Step.refl hm he
theorem css_one (h : PS X st (sD G.K E m)) : PSs X [st] (sD G.K E m) := pss_one h
theorem css_cons (h1 : PS X st (sD G.K E m)) (h2 : PSs X rest (sD G.K E m')) : PSs X (st :: rest) (sD G.K E (mSeq m m')) := by
  refine (pss_cons h1 h2).imp fun T σ H ⟨env, L, M, he, hm, h⟩ => ⟨env, L, M, he, hm, ?_⟩
  unfold mSeq at h
  split at h
  · rename_i env' M' q
    rw [q]
    exact fun L' H' σ' s m1 e1 => ⟨env', L', M', e1, m1, h.step s⟩
  · rename_i r q
    revert h
    cases r : m env M with
    | nx env' M' => exact (q env' M' r).elim
    | rt d M' => exact id
    | bk d M' => exact id
    | ct d M' => exact id
    | exc x M' => exact id
    | bad => exact id
def mBreak : MS := fun env M => .bk env M
def mCont : MS := fun env M => .ct env M
theorem cs_pass : PS X (.Pass pos) (sD G.K E mNext) := ps_pass.imp fun T σ H ⟨env, L, M, he, hm, h⟩ => h L H σ Step.refl hm he
theorem cs_break : PS X (.Break pos) (sD G.K E mBreak) := ps_break.imp fun T σ H ⟨env, L, M, he, hm, h⟩ => h L H σ Step.refl hm he
theorem cs_continue : PS X (.Continue pos) (sD G.K E mCont) := ps_continue.imp fun T σ H ⟨env, L, M, he, hm, h⟩ => h L H σ Step.refl hm he
def mDrop (a : ME) : MS := fun env M => (a env M).bindS fun _ M1 => .nx env M1
def mRet (a : ME) : MS := fun env M => (a env M).bindS fun d M1 => .rt d M1
def mRetN : MS := fun _ M => .rt .non M
theorem cs_expr (h : PE X e (tD G.K E ma)) (hs : swapsWith e none pos.line X.env = pure false := by rfl) : PS X (.Expr e pos) (sD G.K E (mDrop ma)) := by
  refine (ps_expr h hs).imp fun T σ H ⟨env, L, M, he, hm, h⟩ => ⟨env, L, M, he, hm, Fin.imp (Fin.bindS h) fun v H1 ⟨d, M1, L1, s1, m1, r1, h1⟩ => ?_⟩
  exact h1 L1 H1 σ Step.refl m1 (he.step s1)
theorem cs_ret (h : PE X e (tD G.K E ma)) : PS X (.Return (some e) pos) (sD G.K E (mRet ma)) := by
  refine (ps_ret h).imp fun T σ H ⟨env, L, M, he, hm, h⟩ => ⟨env, L, M, he, hm, Fin.imp (Fin.bindS h) fun v H1 ⟨d, M1, L1, s1, m1, r1, h1⟩ => ?_⟩
  exact h1 L1 H1 v Step.refl m1 r1
theorem cs_retN : PS X (.Return none pos) (sD G.K E mRetN) := ps_retN.imp fun T σ H ⟨env, L, M, he, hm, h⟩ => h L H .non Step.refl hm .non
def mIfS (t : MT) (a b : MS) : MS := fun env M => (t env M).bindS fun c M1 => if c then a env M1 else b env M1
theorem cs_if {c : Expr} {x y : List Stmt} {t : MT} (hc : PT X c (tTD G.K E t)) (ha : PSs X x (sD G.K E m)) (hb : PSs X y (sD G.K E m')) : PS X (.If c x y pos) (sD G.K E (mIfS t m m')) := by
  refine (ps_if hc ha hb).imp fun T σ H ⟨env, L, M, he, hm, h⟩ => ⟨env, L, M, he, hm, Fin.imp (Fin.bindS h) fun v H1 ⟨d, M1, L1, s1, m1, r1, h1⟩ => ?_⟩
  cases r1
  cases v with
  | true =>
    rw [if_pos rfl]
    exact ⟨env, L1, M1, he.step s1, m1, h1⟩
  | false =>
    rw [if_neg Bool.false_ne_true]
    exact ⟨env, L1, M1, he.step s1, m1, h1⟩
/-! ### targets: what is stored in the slots -/
structure GD where
  f : D → Env → Option Env
  sl : List Nat
/-- no other slots than these are changed -/
structure Chg (sl : List Nat) (σ σ' : L2.St) : Prop where
  len : σ'.length = σ.length
  at_ : ∀ i, i ∉ sl → σ'[i]? = σ[i]?
def gtD (K : PySem.W.Frag) (g : GD) : TG := fun v σ H Q => ∃ env L M d env', EnvIs K L H env σ ∧ MemIs K L H M ∧ Is K L H d v ∧ g.f d env = some env' ∧ ∀ H' σ', Step L H L H' → MemIs K L H' M → EnvIs K L H' env' σ' → Chg g.sl σ σ' → Q σ' H'
def gN (i : Nat) : GD := ⟨fun d env => some (env.set i (some d)), [i]⟩
theorem Chg.set {σ : L2.St} {i : Nat} {v : Option V} : Chg [i] σ (σ.set i v) := ⟨List.length_set, fun j h => List.getElem?_set_ne (fun z => h (by simp [z]))⟩
theorem Chg.trans {sl sl' : List Nat} {σ σ1 σ2 : L2.St} (a : Chg sl σ σ1) (b : Chg sl' σ1 σ2) : Chg (sl ++ sl') σ σ2 :=
  ⟨b.len.trans a.len, fun i h => (b.at_ i fun z => h (List.mem_append_right _ z)).trans (a.at_ i fun z => h (List.mem_append_left _ z))⟩
theorem Chg.refl {σ : L2.St} : Chg [] σ σ := ⟨rfl, fun _ _ => rfl⟩
theorem cg_name {i : Nat} {x : Str} (c : Cq G k E N sc X) (hi : N[i]? = some x) (hx : Loc sc x) (hf : X.fn x = true ∨ sc.names.lookup x = some NameKind.local) : PG X (.Name x pos) (gtD G.K (gN i)) := by
  refine (pg_name (i := i) (by rw [c.n]; exact c.nd) (by rw [c.n]; exact hi) (by rw [c.scq]; exact hx) (by rw [c.scq]; exact hf)).imp fun v σ H Q ⟨env, L, M, d, env', he, hm, r, q, h⟩ => ?_
  cases q
  exact h H _ Step.refl hm (he.set i r) Chg.set
def gTs : List GD → List D → Env → Option Env
  | [], [], env => some env
  | g :: gs, d :: ds, env => (g.f d env).bind fun env' => gTs gs ds env'
  | _, _, _ => none
def slots : List GD → List Nat
  | [] => []
  | g :: gs => g.sl ++ slots gs
def gTf (gs : List GD) (d : D) (env : Env) : Option Env := match d with
  | .tup ds => gTs gs ds env
  | _ => none
def gT (gs : List GD) : GD := ⟨gTf gs, slots gs⟩
def gsD (K : PySem.W.Frag) (gs : List GD) : TGs := fun vs σ H Q => ∃ env L M ds env', EnvIs K L H env σ ∧ MemIs K L H M ∧ IsL K L H ds vs ∧ gTs gs ds env = some env' ∧ ∀ H' σ', Step L H L H' → MemIs K L H' M → EnvIs K L H' env' σ' → Chg (slots gs) σ σ' → Q σ' H'
variable {es : List Expr} {g : GD} {gs : List GD}
theorem cgs_nil : PGs X [] (gsD G.K []) := by
  refine ⟨fun pins s σ H vs us Q I r ⟨env, L, M, ds, env', he, hm, rl, q, h⟩ => pgs_nil.run pins s σ H vs us Q I r ?_⟩
  cases rl with
  | nil =>
    cases q
    exact ⟨rfl, h H σ Step.refl hm he Chg.refl⟩
  | cons _ _ => cases q
theorem cgs_cons (h1 : PG X e (gtD G.K g)) (h2 : PGs X es (gsD G.K gs)) (hs : (assignEach (e :: es) X.env).map (·.2) = assign e X.env :: (assignEach es X.env).map (·.2) := by rfl) : PGs X (e :: es) (gsD G.K (g :: gs)) := by
  refine ⟨fun pins s σ H vs us Q I r ⟨env, L, M, ds, env', he, hm, rl, q, h⟩ => (pgs_cons h1 h2 hs).run pins s σ H vs us Q I r ?_⟩
  cases rl with
  | nil => cases q
  | @cons d v ds vs r1 rs =>
    have q' : (g.f d env).bind (fun env' => gTs gs ds env') = some env' := q
    cases ge : g.f d env with
    | none =>
      rw [ge] at q'
      cases q'
    | some env1 =>
      rw [ge] at q'
      exact ⟨v, vs, rfl, env, L, M, d, env1, he, hm, r1, ge, fun H1 σ' s1 m1 e1 c1 => ⟨env1, L, M, ds, env', e1, m1, rs.step s1, q', fun H2 σ2 s2 m2 e2 c2 => h H2 σ2 (s1.trans s2) m2 e2 (c1.trans c2)⟩⟩
theorem Is.tup_inv {K : PySem.W.Frag} {L : Wd} {H : Hp} {ds : List D} {v : V} (h : Is K L H (.tup ds) v) : ∃ a vs, v = .ref a ∧ SqT K H a vs ∧ IsL K L H ds vs := by
  cases h with
  | tup h n r => exact ⟨_, _, rfl, .inl h, r⟩
  | tupK h r => exact ⟨_, _, rfl, .inr h, r⟩
theorem Is.lst_inv {K : PySem.W.Frag} {L : Wd} {H : Hp} {ds : List D} {v : V} (h : Is K L H (.lst ds) v) : ∃ a vs, v = .ref a ∧ H a = some (.lst vs) ∧ Out L a ∧ IsL K L H ds vs := by
  cases h with
  | lst h n r => exact ⟨_, _, rfl, h, n, r⟩
theorem Is.scr_inv {K : PySem.W.Frag} {L : Wd} {H : Hp} {ds : List D} {v : V} (h : Is K L H (.scr ds) v) : ∃ a vs, v = .ref a ∧ SqL K H a vs ∧ IsL K L H ds vs := by
  cases h with
  | scr h n r => exact ⟨_, _, rfl, .inl h, r⟩
  | scrK h r => exact ⟨_, _, rfl, .inr h, r⟩
theorem cg_tup {kk : Nat} {n : Nat} (c : Cq G k E N sc X) (h : PGs X es (gsD G.K gs)) (hn : (assignEach es X.env).length = n := by rfl) (hl : gs.length = n := by rfl) (hst : (assignEach es X.env).findIdx? (·.1) = none := by rfl) : PG X (.Tuple es kk pos) (gtD G.K (gT gs)) := by
  obtain rfl := c.g
  refine (pg_tup c.calm h hn hst).imp fun v σ H Q ⟨env, L, M, d, env', he, hm, r, q, h⟩ => ?_
  replace q : gTf gs d env = some env' := q
  unfold gTf at q
  split at q
  · rename_i ds
    obtain ⟨a, vs, rfl, hq, rl⟩ := r.tup_inv
    have len : ∀ (gs : List GD) (ds : List D) (env : Env), gTs gs ds env = some env' → ds.length = gs.length := by
      intro gs
      induction gs with
      | nil =>
        intro ds env q
        cases ds with
        | nil => rfl
        | cons _ _ => cases q
      | cons g gs ih =>
        intro ds env q
        cases ds with
        | nil => cases q
        | cons d ds =>
          have q' : (g.f d env).bind (fun env' => gTs gs ds env') = some env' := q
          cases ge : g.f d env with
          | none =>
            rw [ge] at q'
            cases q'
          | some env1 =>
            rw [ge] at q'
            rw [List.length_cons, List.length_cons, ih ds env1 q']
    exact ⟨a, vs, rfl, hq, by rw [← rl.length, len gs ds env q, hl], env, L, M, ds, env', he, hm, rl, q, h⟩
  · cases q
/-- target = value -/
def mAsg (a : ME) (g : GD) : MS := fun env M => (a env M).bindS fun d M1 => match g.f d env with
  | some env' => .nx env' M1
  | none => .bad
theorem asg_sim {σ : L2.St} {H : Hp} {T : Ends} (h : sD G.K E (mAsg ma g) T σ H) : tAsg (tD G.K E ma) (gtD G.K g) T σ H := by
  obtain ⟨env, L, M, he, hm, h⟩ := h
  refine ⟨env, L, M, he, hm, Fin.imp (Fin.bindS h) fun v H1 ⟨d, M1, L1, s1, m1, r1, h1⟩ => ?_⟩
  cases q : g.f d env with
  | none =>
    rw [q] at h1
    exact h1.elim
  | some env' =>
    rw [q] at h1
    exact ⟨env, L1, M1, d, env', he.step s1, m1, r1, q, fun H2 σ' s2 m2 e1 _ => h1 L1 H2 σ' s2 m2 e1⟩
theorem cs_asg {tg : Expr} (h : PE X e (tD G.K E ma)) (hg : PG X tg (gtD G.K g)) (hs : swapsWithSole [tg] e pos.line X.env = pure false := by rfl) (hw : swappedStores [tg] e X.env = pure none := by rfl) (h1 : (assignEach [tg] X.env).map (·.2) = [assign tg X.env] := by rfl) :
    PS X (.Assign [tg] e pos) (sD G.K E (mAsg ma g)) := (ps_asg h hg hs hw h1).imp fun _ _ _ h => asg_sim h
theorem cs_set {i : Nat} {x : Str} {pos' : Pos} (c : Cq G k E N sc X) (hi : N[i]? = some x) (hx : Loc sc x) (hf : X.fn x = true ∨ sc.names.lookup x = some NameKind.local) (h : PE X e (tD G.K E ma)) (hs : swapsWith e (some (.Name x pos')) pos.line X.env = pure false := by rfl) :
    PS X (.Assign [.Name x pos'] e pos) (sD G.K E (mAsg ma (gN i))) := by
  refine (ps_set (i := i) (by rw [c.n]; exact c.nd) (by rw [c.n]; exact hi) (by rw [c.scq]; exact hx) h hs (by rw [c.scq]; exact hf)).imp fun T σ H ⟨env, L, M, he, hm, h⟩ => ?_
  refine ⟨env, L, M, he, hm, Fin.imp (Fin.bindS h) fun v H1 ⟨d, M1, L1, s1, m1, r1, h1⟩ => ?_⟩
  exact h1 L1 H1 _ Step.refl m1 ((he.step s1).set i r1)
/-! ### what is walked -/
structure Itm where
  items : List D
  chk : Mem → Prop
abbrev MI := Env → Mem → Res Itm
def ItIs (K : PySem.W.Frag) (L : Wd) (H : Hp) (t : Itm) (J : It) : Prop := ∀ (L' : Wd) (H' : Hp) (M' : Mem), Mv L H L' H' → MemIs K L' H' M' → t.chk M' →
  ∀ i : Nat, (∀ d, t.items[i]? = some d → J.go i H' ∧ ∀ x H'', J.yld i H' x H'' → Step L' H' L' H'' ∧ MemIs K L' H'' M' ∧ Is K L' H'' d x) ∧ (t.items.length = i → J.stop i H')
def tID (K : PySem.W.Frag) (E : XK) (m : MI) : TI := fun σ H R => ∃ env L M, EnvIs K L H env σ ∧ MemIs K L H M ∧ Fin (ItIs K) K E L H (m env M) R
def ResS.loop (r : ResS) (f : Env → Mem → ResS) : ResS := match r with
  | .nx e1 M1 => f e1 M1
  | .ct e1 M1 => f e1 M1
  | .bk e1 M1 => .nx e1 M1
  | .rt d1 M1 => .rt d1 M1
  | .exc x M1 => .exc x M1
  | .bad => .bad
open Classical in
noncomputable def loopS (g : GD) (mb : MS) (chk : Mem → Prop) : List D → Env → Mem → ResS
  | [], env, M => if chk M then .nx env M else .bad
  | d :: ds, env, M => if chk M then (match g.f d env with
      | some env' => (mb env' M).loop fun e1 M1 => loopS g mb chk ds e1 M1
      | none => .bad) else .bad
noncomputable def mFor (mi : MI) (g : GD) (mb : MS) : MS := fun env M => (mi env M).bindS fun t M1 => loopS g mb t.chk t.items env M1
theorem cs_for {tg iter : Expr} {body : List Stmt} {mi : MI} (c : Cq G k E N sc X) (hi : PI X tg iter (tID G.K E mi)) (hg : PG X tg (gtD G.K g)) (hb : PSs X body (sD G.K E m)) (hs : ∀ x, foldedSetIterable iter X.env x = pure x := by intro _; rfl) :
    PS X (.For tg iter body [] pos) (sD G.K E (mFor mi g m)) := by
  refine (ps_for c.po c.calm hi hg hb hs).imp fun T σ H ⟨env, L, M, he, hm, h⟩ => ?_
  refine ⟨env, L, M, he, hm, Fin.imp (Fin.bindS h) fun J H1 ⟨t, M1, L1, s1, m1, r1, h1⟩ => ?_⟩
  refine ⟨fun i n σ' H' => ∃ env' L' M', n = t.items.length - i ∧ i ≤ t.items.length ∧ Step L1 H1 L' H' ∧ EnvIs G.K L' H' env' σ' ∧ MemIs G.K L' H' M' ∧ FinS G.K E L' H' (loopS g m t.chk (t.items.drop i) env' M') T,
    ⟨_, env, L1, M1, rfl, Nat.zero_le _, Step.refl, he.step s1, m1, h1⟩, ?_⟩
  rintro i n σ' H' ⟨env', L', M', rfl, hi', s2, e2, m2, h2⟩
  by_cases hlt : i < t.items.length
  · rw [List.drop_eq_getElem_cons hlt] at h2
    unfold loopS at h2
    split at h2
    · rename_i hc
      have it := r1 L' H' M' s2.mv m2 hc i
      obtain ⟨go, yl⟩ := it.1 _ (List.getElem?_eq_getElem hlt)
      refine .inr ⟨go, fun σ3 H3 => ∃ env3 L3 M3, Step L1 H1 L3 H3 ∧ EnvIs G.K L3 H3 env3 σ3 ∧ MemIs G.K L3 H3 M3 ∧ FinS G.K E L3 H3 (loopS g m t.chk (t.items.drop (i + 1)) env3 M3) T, fun σ3 H3 ⟨env3, L3, M3, s3, e3, m3, h3⟩ => ⟨_, by omega, env3, L3, M3, rfl, hlt, s3, e3, m3, h3⟩, fun x H3 y => ?_⟩
      obtain ⟨s3, m3, r3⟩ := yl x H3 y
      cases q : g.f t.items[i] env' with
      | none =>
        rw [q] at h2
        exact h2.elim
      | some env3 =>
        rw [q] at h2
        refine ⟨env', L', M', _, env3, e2.step s3, m3, r3, q, fun H4 σ4 s4 m4 e4 _ => ⟨env3, L', M', e4, m4, ?_⟩⟩
        have h2 : FinS G.K E L' H4 ((m env3 M').loop fun e1 M1 => loopS g m t.chk (t.items.drop (i + 1)) e1 M1) T := h2.step (s3.trans s4)
        generalize m env3 M' = r at h2 ⊢
        revert h2
        cases r with
        | nx e5 M5 => exact fun h2 L5 H5 σ5 s5 m5 q5 => ⟨e5, L5, M5, ((s2.trans s3).trans s4).trans s5, q5, m5, FinS.step s5 h2⟩
        | ct e5 M5 => exact fun h2 L5 H5 σ5 s5 m5 q5 => ⟨e5, L5, M5, ((s2.trans s3).trans s4).trans s5, q5, m5, FinS.step s5 h2⟩
        | bk e5 M5 => exact fun h2 => h2
        | rt d5 M5 => exact fun h2 => h2
        | exc d5 M5 => exact fun h2 => h2
        | bad => exact fun h2 => h2
    · exact h2.elim
  · have e : i = t.items.length := by omega
    subst e
    rw [List.drop_length] at h2
    unfold loopS at h2
    split at h2
    · rename_i hc
      exact .inl ⟨(r1 L' H' M' s2.mv m2 hc _).2 rfl, h2 L' H' σ' Step.refl m2 e2⟩
    · exact h2.elim
/-! ### while: with so many turns at most -/
def loopW (t : MT) (b : MS) : Nat → MS
  | 0 => fun _ _ => .bad
  | n + 1 => fun env M => (t env M).bindS fun c M1 => if c then (b env M1).loop fun e1 M1 => loopW t b n e1 M1 else .nx env M1
def mWhile (fuel : Env → Mem → Nat) (t : MT) (b : MS) : MS := fun env M => loopW t b (fuel env M) env M
theorem cs_while {cnd : Expr} {body : List Stmt} {t : MT} (fuel : Env → Mem → Nat) (c : Cq G k E N sc X) (hc : PT X cnd (tTD G.K E t)) (hb : PSs X body (sD G.K E m)) : PS X (.While cnd body [] pos) (sD G.K E (mWhile fuel t m)) := by
  refine (ps_while c.po hc hb).imp fun T σ H ⟨env, L, M, he, hm, h⟩ => ?_
  refine ⟨fun n σ' H' => ∃ env' L' M', EnvIs G.K L' H' env' σ' ∧ MemIs G.K L' H' M' ∧ FinS G.K E L' H' (loopW t m n env' M') T, ⟨fuel env M, env, L, M, he, hm, h⟩, ?_⟩
  rintro n σ' H' ⟨env', L', M', e2, m2, h2⟩
  cases n with
  | zero => exact h2.elim
  | succ n =>
    refine ⟨env', L', M', e2, m2, Fin.imp (Fin.bindS h2) fun v H3 ⟨d, M3, L3, s3, m3, r3, h3⟩ => ?_⟩
    cases r3
    cases v with
    | false =>
      rw [if_neg Bool.false_ne_true]
      exact h3 L3 H3 σ' Step.refl m3 (e2.step s3)
    | true =>
      rw [if_pos rfl]
      refine ⟨fun σ3 H3 => ∃ env3 L3 M3, EnvIs G.K L3 H3 env3 σ3 ∧ MemIs G.K L3 H3 M3 ∧ FinS G.K E L3 H3 (loopW t m n env3 M3) T, fun σ3 H3 z => ⟨n, Nat.lt_succ_self _, z⟩, env', L3, M3, e2.step s3, m3, ?_⟩
      rw [if_pos rfl] at h3
      generalize m env' M3 = r at h3 ⊢
      revert h3
      cases r with
      | nx e5 M5 => exact fun h2 L5 H5 σ5 s5 m5 q5 => ⟨e5, L5, M5, q5, m5, FinS.step s5 h2⟩
      | ct e5 M5 => exact fun h2 L5 H5 σ5 s5 m5 q5 => ⟨e5, L5, M5, q5, m5, FinS.step s5 h2⟩
      | bk e5 M5 => exact fun h2 => h2
      | rt d5 M5 => exact fun h2 => h2
      | exc d5 M5 => exact fun h2 => h2
      | bad => exact fun h2 => h2
end
end Ly

namespace Ly
open PySem PySem.Spec PyProof.Rows L2
/-! ### comprehensions -/
def wipeD (env : Env) : List Nat → Env
  | [] => env
  | v :: vs => (wipeD env vs).set v none
theorem EnvIs.wipe {K : PySem.W.Frag} {L : Wd} {H : Hp} {env : Env} {σ : L2.St} (h : EnvIs K L H env σ) : ∀ vs : List Nat, EnvIs K L H (wipeD env vs) (L2.wipe σ vs)
  | [] => h
  | v :: vs => by
    have ih := EnvIs.wipe h vs
    refine ⟨by unfold wipeD L2.wipe; rw [List.length_set, List.length_set, ih.len], fun j e q => ?_⟩
    unfold wipeD at q
    by_cases hj : v = j
    · subst hj
      have hlt : v < (wipeD env vs).length := by
        have := (List.getElem?_eq_some_iff.mp q).1
        rwa [List.length_set] at this
      rw [List.getElem?_set_self hlt] at q
      cases q
    · rw [List.getElem?_set_ne hj] at q
      obtain ⟨w, a, b⟩ := ih.at_ j e q
      exact ⟨w, by unfold L2.wipe; rw [List.getElem?_set_ne hj]; exact a, b⟩
theorem wipe_at {σ : L2.St} : ∀ (vs : List Nat) (i : Nat), (L2.wipe σ vs)[i]? = if i ∈ vs then (if i < σ.length then some none else none) else σ[i]?
  | [], i => by simp [L2.wipe]
  | v :: vs, i => by
    unfold L2.wipe
    by_cases hj : v = i
    · subst hj
      rw [if_pos List.mem_cons_self]
      by_cases hl : v < σ.length
      · rw [if_pos hl, List.getElem?_set_self (by rw [L2.wipe_length]; exact hl)]
      · rw [if_neg hl]
        exact List.getElem?_eq_none_iff.mpr (by rw [List.length_set, L2.wipe_length]; omega)
    · rw [List.getElem?_set_ne hj, wipe_at vs i]
      have : (i ∈ v :: vs) ↔ i ∈ vs := by
        rw [List.mem_cons]
        exact ⟨fun z => z.elim (fun z => absurd z.symm hj) id, Or.inr⟩
      simp only [this]
theorem wipe_chg {σ σ' : L2.St} {sl vs : List Nat} (c : Chg sl (L2.wipe σ vs) σ') (hs : ∀ i ∈ sl, i ∈ vs) : L2.wipe σ' vs = L2.wipe σ vs := by
  refine List.ext_getElem? fun i => ?_
  rw [wipe_at, wipe_at]
  by_cases h : i ∈ vs
  · rw [if_pos h, if_pos h, c.len, L2.wipe_length]
  · rw [if_neg h, if_neg h, c.at_ i (fun z => h (hs i z)), wipe_at, if_neg h]
section
variable {G : Gd} {k : Nat} {E : XK} {N : List Str} {sc : Scope} {X : Cx} {a b e : Expr} {ma mb : ME} {pos : Pos}
theorem cq_blk {scope : Scope} (c : Cq G k E N sc X) (hk : scope.kind = ScopeKind.function) (s : Shared) (H : Hp) (C : Addr) (cl : List (Str × Addr)) (fp : List Addr) : Cq G k E0 N (relS scope sc) (X.blk s H scope (compEnvC scope cl C X.env) fp) := by
  obtain rfl := c.g
  refine ⟨rfl, c.n, c.nd, ?_, c.calm, c.room, passL, PassesOwn.never, hk, c.gd⟩
  rw [← c.scq]
  rfl
/-- exceptions within a comprehension are not carried -/
def noX {α : Type} (r : Res α) : Res α := match r with
  | .exc _ _ => .bad
  | r => r
theorem Fin.noX {α β : Type} {Rl : Wd → Hp → α → β → Prop} {K : PySem.W.Frag} {L : Wd} {H : Hp} {r : Res α} {Q : β → Hp → Prop} (h : Fin Rl K E L H (Ly.noX r) Q) : Fin Rl K E0 L H r Q := by
  cases r with
  | ok a M => exact h
  | exc x M => exact h.elim
  | bad => exact h
open Classical in
noncomputable def compL (g : GD) (t : MT) (el : ME) (chk : Mem → Prop) (env : Env) : List D → List D → Mem → Res (List D)
  | [], acc, M => if chk M then .ok acc M else .bad
  | d :: ds, acc, M => if chk M then (match g.f d env with
      | some env' => (noX (t env' M)).bind fun c M1 => if c then (noX (el env' M1)).bind fun y M2 => if szOk (acc.length + 1) then compL g t el chk env ds (acc ++ [y]) M2 else .bad else compL g t el chk env ds acc M1
      | none => .bad) else .bad
noncomputable def mLc (mi : MI) (g : GD) (t : MT) (el : ME) (vs : List Nat) : ME := fun env M => (mi env M).bind fun it M1 => (compL g t el it.chk (wipeD env vs) it.items [] M1).bind fun ds M2 => .ok (.lst ds) M2
def mYes : MT := fun _ M => .ok true M
theorem cts_nil : PTs X [] (tTD G.K E mYes) := ⟨fun pins s σ H Q I ⟨env, L, M, he, hm, h⟩ => pts_nil.run pins s σ H Q I (h.end_ hm rfl)⟩
theorem cts_one {t : MT} (h : PT X e (tTD G.K E t)) : PTs X [e] (tTD G.K E t) := pts_one h
theorem Fin.bind' {α β γ δ : Type} {K : PySem.W.Frag} {L : Wd} {H : Hp} {Rm : Wd → Hp → γ → δ → Prop} {r : Res α} {f : α → Mem → Res γ} {Q : δ → Hp → Prop} (h : Fin Rm K E L H ((Ly.noX r).bind f) Q) : ∃ a M, r = .ok a M ∧ Fin Rm K E L H (f a M) Q := by
  cases r with
  | ok a M => exact ⟨a, M, rfl, h⟩
  | exc x M => exact h.elim
  | bad => exact h.elim
theorem lc_sim {mi : MI} {g : GD} {t : MT} {el : ME} {vs : List Nat} (hsl : ∀ i ∈ g.sl, i ∈ vs) {σ : L2.St} {H : Hp} {Q : VK} (h : tD G.K E (mLc mi g t el vs) σ H Q) :
    tLc (tID G.K E mi) (gtD G.K g) (tTD G.K E0 t) (tD G.K E0 el) vs σ H Q := by
  obtain ⟨env, L, M, he, hm, h⟩ := h
  refine ⟨env, L, M, he, hm, Fin.imp (Fin.bind h) fun J H1 ⟨it, M1, L1, s1, m1, r1, h1⟩ p hp => ?_⟩
  have e1 := he.step s1
  have op := m1.out hp
  refine ⟨fun i n H' => ∃ L' M' acc avs, n = it.items.length - i ∧ i ≤ it.items.length ∧ Step L1 H1 L' H' ∧ MemIs G.K (L'.hide p) H' M' ∧ H' p = some (.lst avs) ∧ IsL G.K (L'.hide p) H' acc avs ∧
      Fin (Is G.K) G.K E L1 H1 ((compL g t el it.chk (wipeD env vs) (it.items.drop i) acc M').bind fun ds M2 => .ok (.lst ds) M2) Q,
    ⟨_, L1, M1, [], [], rfl, Nat.zero_le _, (Step.new m1 hp).1, m1.hide hp, upd_same, .nil, h1⟩, ?_⟩
  rintro i n H2 ⟨L2, M2, acc, avs, rfl, hi', s2, m2, q2, a2, h2⟩
  have mv2 : Mv L1 H1 (L2.hide p) H2 := s2.mvHide hp
  by_cases hlt : i < it.items.length
  · rw [List.drop_eq_getElem_cons hlt] at h2
    unfold compL at h2
    split at h2
    · rename_i hc
      have itx := r1 (L2.hide p) H2 M2 mv2 m2 hc i
      obtain ⟨go, yl⟩ := itx.1 _ (List.getElem?_eq_getElem hlt)
      refine .inr ⟨go, fun H3 => ∃ L' M' acc avs, Step L1 H1 L' H3 ∧ MemIs G.K (L'.hide p) H3 M' ∧ H3 p = some (.lst avs) ∧ IsL G.K (L'.hide p) H3 acc avs ∧
        Fin (Is G.K) G.K E L1 H1 ((compL g t el it.chk (wipeD env vs) (it.items.drop (i + 1)) acc M').bind fun ds M2 => .ok (.lst ds) M2) Q, fun H3 ⟨L', M', acc, avs, x1, x2, x3, x4, x5⟩ => ⟨_, by omega, L', M', acc, avs, rfl, hlt, x1, x2, x3, x4, x5⟩, fun x H3 y => ?_⟩
      obtain ⟨s3, m3, r3⟩ := yl x H3 y
      cases q : g.f it.items[i] (wipeD env vs) with
      | none =>
        rw [q] at h2
        exact h2.elim
      | some env3 =>
        rw [q] at h2
        refine ⟨wipeD env vs, L2.hide p, M2, _, env3, ((e1.mv mv2).step s3).wipe vs, m3, r3, q, fun H4 σ4 s4 m4 e4 c4 => ⟨wipe_chg c4 hsl, env3, L2.hide p, M2, e4, m4, ?_⟩⟩
        replace s3 := s3.trans s4
        replace h2 : Fin (Is G.K) G.K E L1 H1 (((noX (t env3 M2)).bind fun c M1 => if c then (noX (el env3 M1)).bind fun y M2 => if szOk (acc.length + 1) then compL g t el it.chk (wipeD env vs) (it.items.drop (i + 1)) (acc ++ [y]) M2 else .bad else compL g t el it.chk (wipeD env vs) (it.items.drop (i + 1)) acc M1).bind fun ds M2 => .ok (.lst ds) M2) Q := h2
        obtain ⟨s23, e23, s23'⟩ := s2.over hp s3
        cases ht : t env3 M2 with
        | bad =>
          rw [ht] at h2
          exact h2.elim
        | exc x M =>
          rw [ht] at h2
          exact h2.elim
        | ok c M4 =>
          rw [ht] at h2
          intro L5 H5 b5 s5 m5 r5
          cases r5
          obtain ⟨L5', rfl, s15⟩ := s2.over hp (s3.trans s5)
          have q5 : H5 p = some (.lst avs) := ((s3.trans s5).hid p List.mem_cons_self).trans q2
          have a5 := a2.step (s3.trans s5)
          cases c with
          | false =>
            rw [if_neg Bool.false_ne_true]
            exact ⟨L5', M4, acc, avs, s15, m5, q5, a5, h2⟩
          | true =>
            rw [if_pos rfl]
            refine ⟨env3, L5'.hide p, M4, e4.step s5, m5, ?_⟩
            replace h2 : Fin (Is G.K) G.K E L1 H1 (((noX (el env3 M4)).bind fun y M2 => if szOk (acc.length + 1) then compL g t el it.chk (wipeD env vs) (it.items.drop (i + 1)) (acc ++ [y]) M2 else .bad).bind fun ds M2 => .ok (.lst ds) M2) Q := h2
            cases hy : el env3 M4 with
            | bad =>
              rw [hy] at h2
              exact h2.elim
            | exc x M =>
              rw [hy] at h2
              exact h2.elim
            | ok yd M6 =>
              rw [hy] at h2
              intro L7 H7 yv s7 m7 r7
              obtain ⟨L7', rfl, s17⟩ := s2.over hp ((s3.trans s5).trans s7)
              have q7 : H7 p = some (.lst avs) := (((s3.trans s5).trans s7).hid p List.mem_cons_self).trans q2
              have a7 := a2.step ((s3.trans s5).trans s7)
              replace h2 : Fin (Is G.K) G.K E L1 H1 ((if szOk (acc.length + 1) then compL g t el it.chk (wipeD env vs) (it.items.drop (i + 1)) (acc ++ [yd]) M6 else .bad).bind fun ds M2 => .ok (.lst ds) M2) Q := h2
              split at h2
              · rename_i hz
                refine ⟨avs, q7, ?_, L7', M6, acc ++ [yd], avs ++ [yv], s17.built op.2 hp, m7.built, upd_same, (a7.append (.cons r7 .nil)).mv Mv.built, h2⟩
                have := szOk.le hz
                rw [a7.length] at this
                omega
              · exact h2.elim
    · exact h2.elim
  · have e : i = it.items.length := by omega
    subst e
    rw [List.drop_length] at h2
    unfold compL at h2
    split at h2
    · rename_i hc
      refine .inl ⟨(r1 (L2.hide p) H2 M2 mv2 m2 hc _).2 rfl, h2 L2 H2 _ s2 m2.show (.lst q2 ⟨(m2.hid p List.mem_cons_self).1, ?_⟩ (a2.mv Mv.show))⟩
      rw [s2.same]
      exact op.2
    · exact h2.elim
/-- [el for tg in iter if ..] -/
theorem ce_lc {elt tg iter : Expr} {ifs : List Expr} {scope : Scope} {own : List (Str × Nat)} {mi : MI} {g : GD} {t : MT} {el : ME} (c : Cq G k E N sc X) (hi : PI X tg iter (tID G.K E mi)) (ok : blkC N sc scope own = true) (hk : scope.kind = ScopeKind.function)
    (hg : ∀ Y, Cq G k E0 N (relS scope sc) Y → Y.fn = (fun x => scope.names.lookup x == some .cell) → PG Y tg (gtD G.K g)) (ht : ∀ Y, Cq G k E0 N (relS scope sc) Y → PTs Y ifs (tTD G.K E0 t)) (he : ∀ Y, Cq G k E0 N (relS scope sc) Y → PE Y elt (tD G.K E0 el))
    (hsl : ∀ i ∈ g.sl, i ∈ own.map (·.2)) (hs : ∀ x, foldedSetIterable iter X.env x = pure x := by intro _; rfl) : PE X (.ListComp elt [⟨tg, iter, ifs, 0⟩] scope pos) (tD G.K E (mLc mi g t el (own.map (·.2)))) :=
  (pe_lc (own := own) c.calm (by rw [c.n]; exact c.nd) hi (by rw [c.n, c.scq]; exact blkOk_by ok) (fun s H C cl fp => hg _ (cq_blk c hk s H C cl fp) rfl) (fun s H C cl fp => ht _ (cq_blk c hk s H C cl fp)) (fun s H C cl fp => he _ (cq_blk c hk s H C cl fp)) hs).imp fun σ H Q h => lc_sim hsl h
theorem cs_setLc {i : Nat} {y : Str} {py spos : Pos} {elt tg iter : Expr} {ifs : List Expr} {scope : Scope} {own : List (Str × Nat)} {mi : MI} {g : GD} {t : MT} {el : ME} (c : Cq G k E N sc X) (hy : N[i]? = some y) (hyl : sc.names.lookup y = some NameKind.local)
    (hsw : swapsWith (.ListComp elt [⟨tg, iter, ifs, 0⟩] scope pos) (some (.Name y py)) spos.line X.env = pure true) (hi : PI X tg iter (tID G.K E mi)) (ok : blkC N sc scope own = true) (hk : scope.kind = ScopeKind.function)
    (hg : ∀ Y, Cq G k E0 N (relS scope sc) Y → Y.fn = (fun x => scope.names.lookup x == some .cell) → PG Y tg (gtD G.K g)) (ht : ∀ Y, Cq G k E0 N (relS scope sc) Y → PTs Y ifs (tTD G.K E0 t)) (he : ∀ Y, Cq G k E0 N (relS scope sc) Y → PE Y elt (tD G.K E0 el))
    (hsl : ∀ i ∈ g.sl, i ∈ own.map (·.2)) (hs : ∀ x, foldedSetIterable iter X.env x = pure x := by intro _; rfl) : PS X (.Assign [.Name y py] (.ListComp elt [⟨tg, iter, ifs, 0⟩] scope pos) spos) (sD G.K E (mAsg (mLc mi g t el (own.map (·.2))) (gN i))) := by
  refine (ps_setLc (i := i) (own := own) c.calm (by rw [c.n]; exact c.nd) (by rw [c.n]; exact hy) (by rw [c.scq]; exact hyl) hsw hi (by rw [c.n, c.scq]; exact blkOk_by ok) (fun s H C cl fp => hg _ (cq_blk c hk s H C cl fp) rfl) (fun s H C cl fp => ht _ (cq_blk c hk s H C cl fp)) (fun s H C cl fp => he _ (cq_blk c hk s H C cl fp)) hs).imp fun T σ H ⟨env, L, M, he, hm, h⟩ => ?_
  refine lc_sim (G := G) (E := E) hsl ⟨env, L, M, he, hm, Fin.imp (Fin.bindS h) fun v H1 ⟨d, M1, L1, s1, m1, r1, h1⟩ => ?_⟩
  exact h1 L1 H1 _ Step.refl m1 ((he.step s1).set i r1)
end
end Ly

namespace Ly
open PySem PySem.Spec PyProof.Rows L2
/-! ### data that names cells below k alone; a def's own cells are laid down at its end -/
mutual
def D.low (k : Nat) : D → Bool
  | .tup ds => lowL k ds
  | .lst ds => lowL k ds
  | .scr ds => lowL k ds
  | .dic kvs => lowK k kvs
  | .obj _ fs => lowF k fs
  | .ref n => decide (n < k)
  | _ => true
def lowL (k : Nat) : List D → Bool
  | [] => true
  | d :: ds => D.low k d && lowL k ds
def lowK (k : Nat) : List (Key × D) → Bool
  | [] => true
  | d :: ds => D.low k d.2 && lowK k ds
def lowF (k : Nat) : List (Str × D) → Bool
  | [] => true
  | d :: ds => D.low k d.2 && lowF k ds
end
def Cell.low (k : Nat) : Cell → Bool
  | .lst ds => lowL k ds
  | .dic kvs => lowK k kvs
  | .obj _ fs => lowF k fs
section
variable {K : PySem.W.Frag} {L L' : Wd} {H H' : Hp}
theorem and_l {a b : Bool} (h : (a && b) = true) : a = true := (Bool.and_eq_true_iff.mp h).1
theorem and_r {a b : Bool} (h : (a && b) = true) : b = true := (Bool.and_eq_true_iff.mp h).2
mutual
theorem Is.low : ∀ {d : D} {v : V}, Is K L H d v → d.low L.l.length = true
  | _, _, .non => rfl
  | _, _, .bl b => rfl
  | _, _, .int i => rfl
  | _, _, .str x => rfl
  | _, _, .ty n => rfl
  | _, _, .adr a => rfl
  | _, _, .tup h n r => by unfold D.low; exact IsL.low r
  | _, _, .tupK h r => by unfold D.low; exact IsL.low r
  | _, _, .lst h n r => by unfold D.low; exact IsL.low r
  | _, _, .scr h n r => by unfold D.low; exact IsL.low r
  | _, _, .scrK h r => by unfold D.low; exact IsL.low r
  | _, _, .dic h n r => by unfold D.low; exact IsKV.low r
  | _, _, .obj h n r => by unfold D.low; exact IsFs.low r
  | _, _, .ref h => by unfold D.low; exact decide_eq_true (List.getElem?_eq_some_iff.mp h).1
theorem IsL.low : ∀ {ds : List D} {vs : List V}, IsL K L H ds vs → lowL L.l.length ds = true
  | _, _, .nil => rfl
  | _, _, .cons a b => by unfold lowL; rw [Is.low a, IsL.low b]; rfl
theorem IsKV.low : ∀ {ds : List (Key × D)} {vs : List (Key × V)}, IsKV K L H ds vs → lowK L.l.length ds = true
  | _, _, .nil => rfl
  | _, _, .cons a b => by unfold lowK; rw [Is.low a, IsKV.low b]; rfl
theorem IsFs.low : ∀ {ds : List (Str × D)} {vs : List (Str × V)}, IsFs K L H ds vs → lowF L.l.length ds = true
  | _, _, .nil => rfl
  | _, _, .cons a b => by unfold lowF; rw [Is.low a, IsFs.low b]; rfl
end
theorem CellIs.low {c : Cell} {a : Addr} (h : CellIs K L H c a) : c.low L.l.length = true := by
  cases c with
  | lst ds => exact let ⟨_, _, r⟩ := h; r.low
  | dic kvs => exact let ⟨_, _, r⟩ := h; r.low
  | obj c fs => exact let ⟨_, _, _, r⟩ := h; r.low
theorem Out.less {l : List Addr} (e : L'.l = L.l ++ l) (z : L'.z = L.z) {a : Addr} (h : Out L' a) : Out L a := ⟨fun q => h.1 (by rw [e]; exact List.mem_append_left _ q), fun q => h.2 (by rw [z]; exact q)⟩
mutual
theorem Is.less {l : List Addr} (e : L'.l = L.l ++ l) (z : L'.z = L.z) : ∀ {d : D} {v : V}, Is K L' H d v → d.low L.l.length = true → Is K L H d v
  | _, _, .non, _ => .non
  | _, _, .bl b, _ => .bl b
  | _, _, .int i, _ => .int i
  | _, _, .str x, _ => .str x
  | _, _, .ty n, _ => .ty n
  | _, _, .adr a, _ => .adr a
  | _, _, .tup h n r, w => .tup h (n.less e z) (IsL.less e z r (by unfold D.low at w; exact w))
  | _, _, .tupK h r, w => .tupK h (IsL.less e z r (by unfold D.low at w; exact w))
  | _, _, .lst h n r, w => .lst h (n.less e z) (IsL.less e z r (by unfold D.low at w; exact w))
  | _, _, .scr h n r, w => .scr h (n.less e z) (IsL.less e z r (by unfold D.low at w; exact w))
  | _, _, .scrK h r, w => .scrK h (IsL.less e z r (by unfold D.low at w; exact w))
  | _, _, .dic h n r, w => .dic h (n.less e z) (IsKV.less e z r (by unfold D.low at w; exact w))
  | _, _, .obj h n r, w => .obj h (n.less e z) (IsFs.less e z r (by unfold D.low at w; exact w))
  | _, _, .ref h, w => .ref (by
      unfold D.low at w
      rw [e, List.getElem?_append_left (of_decide_eq_true w)] at h
      exact h)
theorem IsL.less {l : List Addr} (e : L'.l = L.l ++ l) (z : L'.z = L.z) : ∀ {ds : List D} {vs : List V}, IsL K L' H ds vs → lowL L.l.length ds = true → IsL K L H ds vs
  | _, _, .nil, _ => .nil
  | _, _, .cons a b, w => .cons (Is.less e z a (by unfold lowL at w; exact and_l w)) (IsL.less e z b (by unfold lowL at w; exact and_r w))
theorem IsKV.less {l : List Addr} (e : L'.l = L.l ++ l) (z : L'.z = L.z) : ∀ {ds : List (Key × D)} {vs : List (Key × V)}, IsKV K L' H ds vs → lowK L.l.length ds = true → IsKV K L H ds vs
  | _, _, .nil, _ => .nil
  | _, _, .cons a b, w => .cons (Is.less e z a (by unfold lowK at w; exact and_l w)) (IsKV.less e z b (by unfold lowK at w; exact and_r w))
theorem IsFs.less {l : List Addr} (e : L'.l = L.l ++ l) (z : L'.z = L.z) : ∀ {ds : List (Str × D)} {vs : List (Str × V)}, IsFs K L' H ds vs → lowF L.l.length ds = true → IsFs K L H ds vs
  | _, _, .nil, _ => .nil
  | _, _, .cons a b, w => .cons (Is.less e z a (by unfold lowF at w; exact and_l w)) (IsFs.less e z b (by unfold lowF at w; exact and_r w))
end
theorem CellIs.less {l : List Addr} (e : L'.l = L.l ++ l) (z : L'.z = L.z) {c : Cell} {a : Addr} (h : CellIs K L' H c a) (w : c.low L.l.length = true) : CellIs K L H c a := by
  cases c with
  | lst ds => exact let ⟨vs, q, r⟩ := h; ⟨vs, q, r.less e z w⟩
  | dic kvs => exact let ⟨vs, q, r⟩ := h; ⟨vs, q, r.less e z w⟩
  | obj c fs => exact let ⟨dx, vs, q, r⟩ := h; ⟨dx, vs, q, r.less e z w⟩
end
def frL (f : D → Option D) : List D → Option (List D)
  | [] => some []
  | d :: ds => (f d).bind fun a => (frL f ds).map fun b => a :: b
def frK (f : D → Option D) : List (Key × D) → Option (List (Key × D))
  | [] => some []
  | d :: ds => (f d.2).bind fun a => (frK f ds).map fun b => (d.1, a) :: b
def frF (f : D → Option D) : List (Str × D) → Option (List (Str × D))
  | [] => some []
  | d :: ds => (f d.2).bind fun a => (frF f ds).map fun b => (d.1, a) :: b
def frzC (f : D → Option D) : Cell → Option D
  | .lst ds => (frL f ds).map .lst
  | .dic kvs => (frK f kvs).map .dic
  | .obj c fs => (frF f fs).map (.obj c)
def frzD (k : Nat) (M : Mem) : Nat → D → Option D
  | 0, d => if d.low k then some d else none
  | n + 1, d => if d.low k then some d else match d with
    | .tup ds => (frL (frzD k M n) ds).map .tup
    | .lst ds => (frL (frzD k M n) ds).map .lst
    | .dic kvs => (frK (frzD k M n) kvs).map .dic
    | .obj c fs => (frF (frzD k M n) fs).map (.obj c)
    | .ref i => (M[i]?).bind (frzC (frzD k M n))
    | _ => none
section
variable {K : PySem.W.Frag} {L L' : Wd} {H H' : Hp}
theorem frL_ok {f : D → Option D} (hf : ∀ d d' v, Is K L' H d v → f d = some d' → Is K L H d' v) : ∀ {ds ds' : List D} {vs : List V}, IsL K L' H ds vs → frL f ds = some ds' → IsL K L H ds' vs
  | _, _, _, .nil, h => by cases h; exact .nil
  | d :: ds, _, _, .cons a b, h => by
    have h : ((f d).bind fun a => (frL f ds).map fun b => a :: b) = some _ := h
    obtain ⟨x, hx, h⟩ := Option.bind_eq_some_iff.mp h
    obtain ⟨y, hy, h⟩ := Option.map_eq_some_iff.mp h
    subst h
    exact .cons (hf _ _ _ a hx) (frL_ok hf b hy)
theorem frK_ok {f : D → Option D} (hf : ∀ d d' v, Is K L' H d v → f d = some d' → Is K L H d' v) : ∀ {ds ds' : List (Key × D)} {vs : List (Key × V)}, IsKV K L' H ds vs → frK f ds = some ds' → IsKV K L H ds' vs
  | _, _, _, .nil, h => by cases h; exact .nil
  | (k, d) :: ds, _, _, .cons a b, h => by
    have h : ((f d).bind fun a => (frK f ds).map fun b => (k, a) :: b) = some _ := h
    obtain ⟨x, hx, h⟩ := Option.bind_eq_some_iff.mp h
    obtain ⟨y, hy, h⟩ := Option.map_eq_some_iff.mp h
    subst h
    exact .cons (hf _ _ _ a hx) (frK_ok hf b hy)
theorem frF_ok {f : D → Option D} (hf : ∀ d d' v, Is K L' H d v → f d = some d' → Is K L H d' v) : ∀ {ds ds' : List (Str × D)} {vs : List (Str × V)}, IsFs K L' H ds vs → frF f ds = some ds' → IsFs K L H ds' vs
  | _, _, _, .nil, h => by cases h; exact .nil
  | (k, d) :: ds, _, _, .cons a b, h => by
    have h : ((f d).bind fun a => (frF f ds).map fun b => (k, a) :: b) = some _ := h
    obtain ⟨x, hx, h⟩ := Option.bind_eq_some_iff.mp h
    obtain ⟨y, hy, h⟩ := Option.map_eq_some_iff.mp h
    subst h
    exact .cons (hf _ _ _ a hx) (frF_ok hf b hy)
theorem frzD_ok {l : List Addr} (e : L'.l = L.l ++ l) (z : L'.z = L.z) {M : Mem} (m : MemIs K L' H M) : ∀ (n : Nat) (d d' : D) (v : V), Is K L' H d v → frzD L.l.length M n d = some d' → Is K L H d' v := by
  intro n
  induction n with
  | zero =>
    intro d d' v r h
    unfold frzD at h
    split at h
    · rename_i w
      cases h
      exact r.less e z w
    · cases h
  | succ n ih =>
    intro d d' v r h
    unfold frzD at h
    split at h
    · rename_i w
      cases h
      exact r.less e z w
    · rename_i w
      split at h
      · obtain ⟨ds', h1, rfl⟩ := Option.map_eq_some_iff.mp h
        cases r with
        | tup a b c => exact .tup a (b.less e z) (frL_ok ih c h1)
        | tupK a c => exact .tupK a (frL_ok ih c h1)
      · obtain ⟨ds', h1, rfl⟩ := Option.map_eq_some_iff.mp h
        cases r with
        | lst a b c => exact .lst a (b.less e z) (frL_ok ih c h1)
      · obtain ⟨ds', h1, rfl⟩ := Option.map_eq_some_iff.mp h
        cases r with
        | dic a b c => exact .dic a (b.less e z) (frK_ok ih c h1)
      · obtain ⟨ds', h1, rfl⟩ := Option.map_eq_some_iff.mp h
        cases r with
        | obj a b c => exact .obj a (b.less e z) (frF_ok ih c h1)
      · rename_i i
        obtain ⟨c, h1, h2⟩ := Option.bind_eq_some_iff.mp h
        cases r with
        | @ref _ ad q =>
          have w' : ¬ i < L.l.length := by
            unfold D.low at w
            simpa using w
          have out : Out L ad := ⟨fun y => by
            obtain ⟨j, hj⟩ := List.mem_iff_getElem?.mp y
            have hl := (List.getElem?_eq_some_iff.mp hj).1
            have : L'.l[j]? = some ad := by rw [e, List.getElem?_append_left hl]; exact hj
            have := nodup_at m.nd this q
            omega, fun y => (m.hid _ (by rw [z]; exact y)).1 (List.mem_of_getElem? q)⟩
          have cc := m.cell i _ c q h1
          cases c with
          | lst ds =>
            obtain ⟨vs, x, r⟩ := cc
            obtain ⟨ds', h3, rfl⟩ := Option.map_eq_some_iff.mp h2
            exact .lst x out (frL_ok ih r h3)
          | dic ds =>
            obtain ⟨vs, x, r⟩ := cc
            obtain ⟨ds', h3, rfl⟩ := Option.map_eq_some_iff.mp h2
            exact .dic x out (frK_ok ih r h3)
          | obj c fs =>
            obtain ⟨dx, vs, x, r⟩ := cc
            obtain ⟨ds', h3, rfl⟩ := Option.map_eq_some_iff.mp h2
            exact .obj x out (frF_ok ih r h3)
      · cases h
end
/-- a cell as it was, or one that names no newer ones -/
def Laid (M M' : Mem) : Prop := ∀ i : Nat, i < M.length → M'[i]? = M[i]? ∨ ∃ c, M'[i]? = some c ∧ c.low M.length = true
open Classical in
noncomputable def finish (M : Mem) (d : D) (M' : Mem) : Res D := if Laid M M' then (match frzD M.length M' 20 d with
  | some d' => .ok d' (M'.take M.length)
  | none => .bad) else .bad
open Classical in
noncomputable def finishX (M : Mem) (x : Xc) (M' : Mem) : Res D := if Laid M M' then (match frF (frzD M.length M' 20) x.fs with
  | some fs => .exc ⟨x.bi, x.c, fs⟩ (M'.take M.length)
  | none => .bad) else .bad
def startD (n : Nat) (ds : List D) : Env := ds.map some ++ List.replicate (n - ds.length) none
/-- a def: its own cells are laid down at the end | they stay -/
noncomputable def callD (n : Nat) (m : MS) : MF := fun ds M => match m (startD n ds) M with
  | .rt d M' => finish M d M'
  | .nx _ M' => finish M .non M'
  | .exc x M' => finishX M x M'
  | _ => .bad
def callK (n : Nat) (m : MS) : MF := fun ds M => match m (startD n ds) M with
  | .rt d M' => .ok d M'
  | .nx _ M' => .ok .non M'
  | .exc x M' => .exc x M'
  | _ => .bad
section
variable {K : PySem.W.Frag} {E : XK} {L L' : Wd} {H H' : Hp} {M M' : Mem}
theorem laid_ok (m : MemIs K L H M) (s : Step L H L' H') (m' : MemIs K L' H' M') (h : Laid M M') : Step L H L H' ∧ MemIs K L H' (M'.take M.length) := by
  obtain ⟨l, e⟩ := s.more
  have hlen : M.length ≤ M'.length := by
    rw [← m.len, ← m'.len, e, List.length_append]
    omega
  refine ⟨⟨⟨[], by simp⟩, rfl, s.hid, fun a o q n => ⟨(s.keep a o q n).1, n⟩⟩, ⟨?_, m.nd, fun n a c e1 e2 => ?_, fun a q => ?_⟩⟩
  · rw [List.length_take, Nat.min_eq_left hlen, m.len]
  · have hn : n < L.l.length := (List.getElem?_eq_some_iff.mp e1).1
    have e2' : M'[n]? = some c := by
      rw [List.getElem?_take_of_lt (by rw [← m.len]; exact hn)] at e2
      exact e2
    have e1' : L'.l[n]? = some a := by rw [e, List.getElem?_append_left hn]; exact e1
    have lw : c.low L.l.length = true := by
      rcases h n (by rw [← m.len]; exact hn) with q | ⟨c', q, w⟩
      · rw [e2'] at q
        exact (m.cell n a c e1 q.symm).low
      · rw [e2'] at q
        cases q
        rw [m.len]
        exact w
    exact (m'.cell n a c e1' e2').less e s.same lw
  · obtain ⟨h1, o, h2⟩ := m.hid a q
    exact ⟨h1, o, (s.hid a q).trans h2⟩
theorem finish_sim (m : MemIs K L H M) {d : D} {Q : VK} (h : Fin (Is K) K E L H (finish M d M') Q) : ∀ L' H' v, Step L H L' H' → MemIs K L' H' M' → Is K L' H' d v → Q v H' := by
  intro L' H' v s m' r
  unfold finish at h
  split at h
  · rename_i hl
    obtain ⟨s2, m2⟩ := laid_ok m s m' hl
    split at h
    · rename_i d' q
      obtain ⟨l, e⟩ := s.more
      rw [← m.len] at q
      exact h L H' v s2 m2 (frzD_ok e s.same m' 20 d d' v r q)
    · exact h.elim
  · exact h.elim
theorem finishX_sim (m : MemIs K L H M) {x : Xc} {Q : VK} (h : Fin (Is K) K E L H (finishX M x M') Q) : ∀ L' H' cls d, Step L H L' H' → MemIs K L' H' M' → XcIs K L' H' x cls d → E cls d H' := by
  intro L' H' cls d s m' r
  unfold finishX at h
  split at h
  · rename_i hl
    obtain ⟨s2, m2⟩ := laid_ok m s m' hl
    split at h
    · rename_i fs q
      obtain ⟨l, e⟩ := s.more
      rw [← m.len] at q
      refine h L H' cls d s2 m2 ⟨r.1, ?_⟩
      have r2 := r.2
      obtain ⟨bi, c, fs0⟩ := x
      cases fs0 with
      | nil =>
        cases q
        exact r2
      | cons f fs0 =>
        obtain ⟨dd, gs, e1, e2, n, rf⟩ := r2
        have q' := frF_ok (frzD_ok e s.same m' 20) rf q
        cases fs with
        | nil =>
          cases q'
          cases rf
        | cons f' fs' => exact ⟨dd, gs, e1, e2, n.less e s.same, q'⟩
    · exact h.elim
  · exact h.elim
theorem start_is {N : List Str} {ds : List D} {vs : List V} (r : IsL K L H ds vs) : EnvIs K L H (startD N.length ds) (L2.start N vs) := by
  refine ⟨by unfold startD L2.start; simp [r.length], fun i d e => ?_⟩
  unfold startD at e
  by_cases hi : i < ds.length
  · rw [List.getElem?_append_left (by simpa using hi), List.getElem?_map] at e
    obtain ⟨d', e1, e2⟩ := Option.map_eq_some_iff.mp e
    cases e2
    obtain ⟨v, q, r'⟩ := r.get e1
    refine ⟨v, ?_, r'⟩
    unfold L2.start
    rw [List.getElem?_append_left (by rw [List.length_map, ← r.length]; exact hi), List.getElem?_map, q]
    rfl
  · rw [List.getElem?_append_right (by simpa using hi)] at e
    rw [List.getElem?_replicate] at e
    split at e <;> cases e
theorem callD_sim {N : List Str} {mb : MS} {ds : List D} {Q : VK} (m : MemIs K L H M) (h : Fin (Is K) K E L H (callD N.length mb ds M) Q) : FinS K E L H (mb (startD N.length ds) M) { nx := fun _ H' => Q .non H', rt := Q } := by
  unfold callD at h
  split at h
  · rename_i d M' q
    rw [q]
    exact finish_sim m h
  · rename_i env M' q
    rw [q]
    exact fun L' H' σ' s m' _ => finish_sim m h L' H' .non s m' .non
  · rename_i x M' q
    rw [q]
    exact finishX_sim m h
  · exact h.elim
theorem callK_sim {N : List Str} {mb : MS} {ds : List D} {Q : VK} (m : MemIs K L H M) (h : Fin (Is K) K E L H (callK N.length mb ds M) Q) : FinS K E L H (mb (startD N.length ds) M) { nx := fun _ H' => Q .non H', rt := Q } := by
  unfold callK at h
  split at h
  · rename_i d M' q
    rw [q]
    exact h
  · rename_i env M' q
    rw [q]
    exact fun L' H' σ' s m' _ => h L' H' .non s m' .non
  · rename_i x M' q
    rw [q]
    exact h
  · exact h.elim
end
/-! ### promises; a def is called where no repr is under way (guards) -/
def spD (K : PySem.W.Frag) (n : Nat) (f : MF) : Sp := fun vs H Q E => ∃ ds L M, vs.length = n ∧ IsL K L H ds vs ∧ MemIs K L H M ∧ Fin (Is K) K E L H (f ds M) Q
/-- the def at f keeps sp, called where no guard stands -/
def FnG (G : Gd) (k : Nat) (f : Addr) (fd : FuncData) (ps : List Str) (sp : Sp) : Prop :=
  ∀ (A : Around) (outer : List PySem.Env) (s : Shared) (H : Hp) (args : Args) (us : List Value) (vs : List V) (Q : VK) (E : XK), Room k A → A.guards = some [] → Env0 G.P G.w G.K G.mg G.base A outer s H →
    BindsTo s fd args (ps.zip us) → Vals vs us → vs.length = ps.length → sp vs H Q E → codeAny (model G.P G.w) A (.call (.ref f) args) (CR (L2.CX G.P G.w) outer G.P G.w H s Q E) s
structure Cal (G : Gd) (k : Nat) (x : Str) (ps : List Str) (f : MF) : Prop where
  ex : ∃ fd, FnG G k (He.ga G.K x) fd ps (spD G.K ps.length f) ∧ Binds G.K fd ps []
  kp : PySem.W.keepIn G.K (.ref (He.ga G.K x)) = true
  gl : G.mg x = some (.ref (He.ga G.K x))
theorem cq_def {G : Gd} {N : List Str} {qual : Str} {scope : Scope} {f : Addr} {cdv : Value} {A : Around} {outer : List PySem.Env} {s : Shared} {H : Hp} {E : XK} {k : Nat}
    (hr : Room k (A.deeper (envOfC qual scope s.heap.objs.size f cdv))) (hg : A.guards = some []) (nd : N.Nodup) (hk : scope.kind = ScopeKind.function) : Cq G k E N scope (cxOf (L2.CX G.P G.w) G.P G.w G.K G.mg G.base N qual scope f cdv A outer s H E) := by
  have tk : Takes (cxOf (L2.CX G.P G.w) G.P G.w G.K G.mg G.base N qual scope f cdv A outer s H E) (fun cls d _ H => E cls d H) := takes_of rfl rfl rfl rfl
  exact ⟨rfl, rfl, nd, rfl, rfl, hr, passes_call tk fun _ _ _ _ h => h, passes_of rfl, hk, hg⟩
section
variable {G : Gd} {k j : Nat} {E : XK} {N ps : List Str} {sc : Scope} {X : Cx} {a b e : Expr} {es : List Expr} {ma mb : ME} {mr : MA} {pos p : Pos} {x : Str} {f : MF}
/-- a def by its body -/
theorem fn_body {qual : Str} {params : Arguments} {body : List Stmt} {dvs : List V} {kws : List (Str × V)} {fa : Addr} {fd : FuncData} {sp : Sp} (F : FunD G.K x qual params body sc dvs kws fa fd) (S : FnScope N ps sc)
    (hb : ∀ (X : Cx) (vs : List V) (H : Hp) (Q : VK) (E : XK), Cq G k E N sc X → X.fn = (fun _ => true) → sp vs H Q E → ∃ t, PSs X body t ∧ t { nx := fun _ H' => Q .non H', rt := Q } (L2.start N vs) H) : FnG G (k + 1) fa fd ps sp := by
  obtain ⟨_, _, _, _, _, _, _, cdv, _, _, rfl, look, code, _, _⟩ := F.ex
  intro A outer s H args us vs Q E room guards env0 binds rel len promise
  have here : G.K.In s.heap := PySem.W.Frag.In.keeps env0.mod.kin fun b o q => (env0.bs b o q).1
  have calm : s.heap.NoLimit := Heap.NoLimit.keeps env0.mod.nolimit fun b o q => (env0.bs b o q).1
  refine codeAny_call_function room.depth (here _ _ look) rfl S.co S.gen rfl (PySem.W.codeRec_of here code) (binds _ _ _ _ (wpAny_newFunctionEnv_cells S.kind (fun y hy => ?_) fun env same s1 inC => ?_))
  · exact (S.par y.1 (List.of_mem_zip (show (y.1, y.2) ∈ ps.zip us from hy)).1).elim .inl fun q => .inr ⟨q, PySem.W.cellsFrom_some _ _ _ (.inl q)⟩
  · subst same
    obtain ⟨t, body, want⟩ := hb _ vs H Q E (cq_def (outer := outer) (H := H) (E := E) (room.deeper _) guards S.nd S.kind) rfl promise
    refine ⟨calm.keeps inC.toInCall.keep, codeAny_func (wpAny_mono (body.run [] s1 _ H _ (inv_start S room.hd env0 len rel inC) want) ?_ fun _ _ z => z)⟩
    intro flow s2 out
    cases flow with
    | ret u => exact let ⟨v, _, H2, J, rv, q⟩ := out; ⟨v, H2, J.os, J.bare, J.base, J.hok, rv, q⟩
    | next => exact let ⟨_, H2, J, q⟩ := out; ⟨V.non, H2, J.os, J.bare, J.base, J.hok, rfl, q⟩
    | brk => exact let ⟨_, _, _, q⟩ := out; q.elim
    | cont => exact let ⟨_, _, _, q⟩ := out; q.elim
theorem fn_okD {qual : Str} {params : Arguments} {body : List Stmt} {dvs : List V} {kws : List (Str × V)} {fa : Addr} {fd : FuncData} {m : MS} (F : FunD G.K x qual params body sc dvs kws fa fd) (S : FnScope N ps sc)
    (hb : ∀ (X : Cx) (E : XK), Cq G k E N sc X → X.fn = (fun _ => true) → PSs X body (sD G.K E m)) : FnG G (k + 1) fa fd ps (spD G.K ps.length (callD N.length m)) :=
  fn_body F S fun X vs H Q E c hf ⟨ds, L, M, hl, r, hm, h⟩ => ⟨_, hb X E c hf, startD N.length ds, L, M, start_is r, hm, callD_sim hm h⟩
theorem fn_okK {qual : Str} {params : Arguments} {body : List Stmt} {dvs : List V} {kws : List (Str × V)} {fa : Addr} {fd : FuncData} {m : MS} (F : FunD G.K x qual params body sc dvs kws fa fd) (S : FnScope N ps sc)
    (hb : ∀ (X : Cx) (E : XK), Cq G k E N sc X → X.fn = (fun _ => true) → PSs X body (sD G.K E m)) : FnG G (k + 1) fa fd ps (spD G.K ps.length (callK N.length m)) :=
  fn_body F S fun X vs H Q E c hf ⟨ds, L, M, hl, r, hm, h⟩ => ⟨_, hb X E c hf, startD N.length ds, L, M, start_is r, hm, callK_sim hm h⟩
/-- the callee runs -/
theorem run_g {fa : Addr} {fd : FuncData} {sp : Sp} (F : FnG (gdOf X) j fa fd ps sp) (room : Room j X.A) (guards : X.A.guards = some []) (B : Binds X.K fd ps []) (pass : Passes (L2.CX X.prog X.w) X E) {pins : List (Addr × Obj)} {σ : L2.St} {H : Hp} {s : Shared} {Q : VK} {us : List Value} {vs : List V}
    (I : Inv X pins σ H s) (rel : Vals vs us) (len : vs.length = ps.length) (h : sp vs H Q E) : wpAny (model X.prog X.w) X.A (call (.ref fa) us) (EP X pins σ Q) X.xe s := by
  have bind := B s us I.kIn (by rw [List.append_nil, ← rel.length]; exact len)
  rw [List.append_nil] at bind
  refine wpAny_call (codeAny_mono (F X.A X.stack s H ⟨us, []⟩ us vs Q E room guards I.env0 bind rel len h) fun r s2 out => ?_)
  cases r with
  | error x => exact pass pins σ H s x s2 I out
  | ok flow =>
    cases flow with
    | ret u => exact I.after out
    | _ => exact False.elim out
def mCall (n : Nat) (f : MF) (mr : MA) : ME := fun env M => (mr env M).bind fun ds M1 => if ds.length = n then f ds M1 else .bad
theorem ce_call (C : Cal G j x ps f) (hj : j ≤ k) (c : Cq G k E N sc X) (hg : sc.names.lookup x = some .globalImplicit) (ha : PA X (e :: es) (tAD G.K E mr)) (hdb : (x == ("__debug__" : Str)) = false := by decide +kernel)
    (first : starEach (e :: es) X.env = (false, eval e X.env) :: starEach es X.env := by rfl) (plain : (backTo pos (starEach es X.env)).any (·.1) = false := by rfl) : PE X (.Call (.Name x p) (e :: es) [] pos) (tD G.K E (mCall ps.length f mr)) := by
  obtain rfl := c.g
  obtain ⟨fd, F, B⟩ := C.ex
  refine ⟨fun pins s σ H Q I ⟨env, L, M, he, hm, h⟩ => wpAny_Call_Name_kw (ld_glob I (show X.env.scope.names.lookup x = _ by rw [c.scq]; exact hg) C.gl (PySem.W.callWith_K (h₀ := X.base) I.ok.mod.kin C.kp ?_ first plain) hdb)⟩
  refine thn (ha.run pos pins s σ H _ I ⟨env, L, M, he, hm, Fin.bind h⟩) fun us s1 ⟨vs, H1, I1, r, ds, M1, L1, s1', m1, r1, h1⟩ => ⟨I1.kIn, ?_⟩
  split at h1
  · rename_i hl
    have hv : vs.length = ps.length := by rw [← r1.length]; exact hl
    exact run_g F (c.room.mono hj) c.gd B c.pass I1 r hv ⟨ds, L1, M1, hv, r1, m1, h1⟩
  · exact h1.elim
theorem ce_call0 (C : Cal G j x [] f) (hj : j ≤ k) (c : Cq G k E N sc X) (hg : sc.names.lookup x = some .globalImplicit) (hdb : (x == ("__debug__" : Str)) = false := by decide +kernel) : PE X (.Call (.Name x p) [] [] pos) (tD G.K E (mCall 0 f mNil)) := by
  obtain rfl := c.g
  obtain ⟨fd, F, B⟩ := C.ex
  refine ⟨fun pins s σ H Q I ⟨env, L, M, he, hm, h⟩ => wpAny_Call_Name_kw (ld_glob I (show X.env.scope.names.lookup x = _ by rw [c.scq]; exact hg) C.gl ?_ hdb)⟩
  exact PySem.W.callWith_K0 I.kIn C.kp (run_g (us := []) F (c.room.mono hj) c.gd B c.pass I .nil rfl ⟨[], L, M, rfl, .nil, hm, h⟩)
/-! ### built-ins by name -/
def mCB (f : MF) (mr : MA) : ME := fun env M => (mr env M).bind fun ds M1 => f ds M1
theorem cb_sim {r : List V → Hp → VK → Prop} (hr : RSC G.K r f) {σ : L2.St} {H : Hp} {Q : VK} (h : tD G.K E (mCB f mr) σ H Q) : tCB r (tAD G.K E mr) σ H Q := by
  obtain ⟨env, L, M, he, hm, h⟩ := h
  refine ⟨env, L, M, he, hm, Fin.imp (Fin.bind h) fun vs H1 ⟨ds, M1, L1, s1, m1, r1, h1⟩ => ?_⟩
  exact hr E L1 H1 M1 ds vs Q m1 r1 h1
theorem ce_callB {id : String} {r : List V → Hp → VK → Prop} (hc : CallR X (.builtin id) r) (hr : RSC G.K r f) (c : Cq G k E N sc X) (hg : sc.names.lookup x = some .globalImplicit) (hm : G.mg x = none) (hv : bootBuiltins x = some (.builtin id)) (ha : PA X (e :: es) (tAD G.K E mr))
    (hn : x ≠ "__name__" := by decide +kernel) (hdb : (x == ("__debug__" : Str)) = false := by decide +kernel) (he : starEach (e :: es) X.env = (false, eval e X.env) :: starEach es X.env := by rfl) (hpl : (backTo pos (starEach es X.env)).any (·.1) = false := by rfl) :
    PE X (.Call (.Name x p) (e :: es) [] pos) (tD G.K E (mCB f mr)) := by
  obtain rfl := c.g
  exact (pe_callB hc (show X.env.scope.names.lookup x = _ by rw [c.scq]; exact hg) hm hv ha hn hdb he hpl).imp fun _ _ _ h => cb_sim hr h
theorem ce_callT {T : String} {r : List V → Hp → VK → Prop} (hc : CallR X (.type T) r) (hr : RSC G.K r f) (c : Cq G k E N sc X) (hg : sc.names.lookup x = some .globalImplicit) (hm : G.mg x = none) (hv : bootBuiltins x = some (.type T)) (ha : PA X (e :: es) (tAD G.K E mr))
    (hn : x ≠ "__name__" := by decide +kernel) (hdb : (x == ("__debug__" : Str)) = false := by decide +kernel) (he : starEach (e :: es) X.env = (false, eval e X.env) :: starEach es X.env := by rfl) (hpl : (backTo pos (starEach es X.env)).any (·.1) = false := by rfl) :
    PE X (.Call (.Name x p) (e :: es) [] pos) (tD G.K E (mCB f mr)) := by
  obtain rfl := c.g
  exact (pe_callTy hc (show X.env.scope.names.lookup x = _ by rw [c.scq]; exact hg) hm hv ha hn hdb he hpl).imp fun _ _ _ h => cb_sim hr h
end
end Ly

namespace Ly
open PySem PySem.Spec PyProof.Rows L2
/-! ### sequences -/
def lstOf (d : D) (M : Mem) : Option (List D) := match d with
  | .lst ds => some ds
  | .scr ds => some ds
  | .ref n => (match M[n]? with
    | some (.lst ds) => some ds
    | _ => none)
  | _ => none
/-- a list that H tracks -/
def lstM (d : D) (M : Mem) : Option (List D) := match d with
  | .lst ds => some ds
  | .ref n => (match M[n]? with
    | some (.lst ds) => some ds
    | _ => none)
  | _ => none
def seqOf (d : D) (M : Mem) : Option (List D) := match d with
  | .tup ds => some ds
  | d => lstOf d M
def dicOf (d : D) (M : Mem) : Option (List (Key × D)) := match d with
  | .dic kvs => some kvs
  | .ref n => (match M[n]? with
    | some (.dic kvs) => some kvs
    | _ => none)
  | _ => none
section
variable {K : PySem.W.Frag} {L : Wd} {H : Hp} {M : Mem} {d : D} {v : V} {ds : List D}
theorem ref_inv {n : Nat} (h : Is K L H (.ref n) v) : ∃ a, v = .ref a ∧ L.l[n]? = some a := by
  cases h with
  | ref h => exact ⟨_, rfl, h⟩
theorem lstM_ok (m : MemIs K L H M) (r : Is K L H d v) (h : lstM d M = some ds) : ∃ a vs, v = .ref a ∧ H a = some (.lst vs) ∧ IsL K L H ds vs := by
  unfold lstM at h
  split at h
  · cases h
    obtain ⟨a, vs, e, q, _, r⟩ := r.lst_inv
    exact ⟨a, vs, e, q, r⟩
  · rename_i n
    split at h
    · rename_i ds' q
      cases h
      obtain ⟨a, e, q'⟩ := ref_inv r
      obtain ⟨vs, q2, r2⟩ := m.cell n a _ q' q
      exact ⟨a, vs, e, q2, r2⟩
    · cases h
  · cases h
theorem lstOf_ok (m : MemIs K L H M) (r : Is K L H d v) (h : lstOf d M = some ds) : ∃ a vs, v = .ref a ∧ SqL K H a vs ∧ IsL K L H ds vs := by
  unfold lstOf at h
  split at h
  · cases h
    obtain ⟨a, vs, e, q, _, r⟩ := r.lst_inv
    exact ⟨a, vs, e, .inl (.inl q), r⟩
  · cases h
    exact r.scr_inv
  · rename_i n
    split at h
    · rename_i ds' q
      cases h
      obtain ⟨a, e, q'⟩ := ref_inv r
      obtain ⟨vs, q2, r2⟩ := m.cell n a _ q' q
      exact ⟨a, vs, e, .inl (.inl q2), r2⟩
    · cases h
  · cases h
theorem seqOf_ok (m : MemIs K L H M) (r : Is K L H d v) (h : seqOf d M = some ds) : ∃ a vs, v = .ref a ∧ (SqL K H a vs ∨ SqT K H a vs) ∧ IsL K L H ds vs := by
  unfold seqOf at h
  split at h
  · cases h
    obtain ⟨a, vs, e, q, r⟩ := r.tup_inv
    exact ⟨a, vs, e, .inr q, r⟩
  · obtain ⟨a, vs, e, q, r⟩ := lstOf_ok m r h
    exact ⟨a, vs, e, .inl q, r⟩
theorem dicOf_ok {kvs : List (Key × D)} (m : MemIs K L H M) (r : Is K L H d v) (h : dicOf d M = some kvs) : ∃ a kws, v = .ref a ∧ H a = some (.dK kws) ∧ IsKV K L H kvs kws := by
  unfold dicOf at h
  split at h
  · cases h
    cases r with
    | dic q n r => exact ⟨_, _, rfl, q, r⟩
  · rename_i n
    split at h
    · rename_i ds' q
      cases h
      obtain ⟨a, e, q'⟩ := ref_inv r
      obtain ⟨vs, q2, r2⟩ := m.cell n a _ q' q
      exact ⟨a, vs, e, q2, r2⟩
    · cases h
  · cases h
/-- a new list, a new tuple -/
theorem new_lst {E : XK} {Q : VK} (m : MemIs K L H M) {vs : List V} (r : IsL K L H ds vs) (h : Fin (Is K) K E L H (.ok (.lst ds) M) Q) : ∀ p, H p = none → Q (.ref p) (upd H p (.lst vs)) := fun p hp => by
  have st := Step.new (o := .lst vs) m hp
  exact h L _ _ st.1 (m.new hp) (.lst upd_same st.2 (r.step st.1))
theorem new_tup {E : XK} {Q : VK} (m : MemIs K L H M) {vs : List V} (r : IsL K L H ds vs) (h : Fin (Is K) K E L H (.ok (.tup ds) M) Q) : ∀ p, H p = none → Q (.ref p) (upd H p (.tup vs)) := fun p hp => by
  have st := Step.new (o := .tup vs) m hp
  exact h L _ _ st.1 (m.new hp) (.tup (.inl upd_same) st.2 (r.step st.1))
theorem new_lstC {E : XK} {Q : VK} (m : MemIs K L H M) {vs : List V} (r : IsL K L H ds vs) (h : Fin (Is K) K E L H (.ok (.ref M.length) (M ++ [.lst ds])) Q) : ∀ p, H p = none → Q (.ref p) (upd H p (.lst vs)) := fun p hp => by
  have st := Step.cell (o := .lst vs) m hp
  refine h (L.add p) _ _ st (m.push hp ⟨vs, upd_same, r.step st⟩) (.ref ?_)
  rw [← m.len]
  simp [Wd.add]
end
/-! ### operators -/
def opAdd (d e : D) (M : Mem) : Res D := match d, e with
  | .int i, .int j => .ok (.int (i + j)) M
  | .str x, .str y => if szOk (x.length + y.length) then .ok (.str (x ++ y)) M else .bad
  | .tup ds, .tup es => if szOk (ds.length + es.length) then .ok (.tup (ds ++ es)) M else .bad
  | d, e => (match lstM d M, lstM e M with
    | some ds, some es => if szOk (ds.length + es.length) then .ok (.lst (ds ++ es)) M else .bad
    | _, _ => .bad)
def rAddA (K : PySem.W.Frag) : R2 := fun x y H Q => ((rI0 fun i j => .int (i + j)) x y H Q ∨ (∃ i j, x = .str i ∧ y = .str j ∧ i.length + j.length ≤ sizeLine ∧ Q (.str (i ++ j)) H)) ∨ (rCatA K x y H Q ∨ rCat x y H Q)
theorem op_addA {X : Cx} : OpR X (binaryOp .Add) (rAddA X.K) := (op_add.or op_add_str).or (op_catA.or op_cat)
theorem rs_add {K : PySem.W.Frag} : RS2 K (rAddA K) opAdd := by
  intro E L H M d e x y Q m rd re h
  unfold opAdd at h
  split at h
  · cases rd; cases re
    exact .inl (.inl ⟨_, _, rfl, rfl, h.end_ m (.int _)⟩)
  · split at h
    · rename_i hz
      cases rd; cases re
      exact .inl (.inr ⟨_, _, rfl, rfl, szOk.le hz, h.end_ m (.str _)⟩)
    · exact h.elim
  · split at h
    · rename_i ds es hz
      obtain ⟨a, vs, rfl, q1, r1⟩ := rd.tup_inv
      obtain ⟨b, ws, rfl, q2, r2⟩ := re.tup_inv
      refine .inr (.inl ⟨a, b, vs, ws, rfl, rfl, q1, q2, by rw [← r1.length, ← r2.length]; exact szOk.le hz, fun e1 => ?_, fun _ e2 => ?_, fun _ _ => new_tup m (r1.append r2) h⟩)
      · subst e1
        cases r1
        exact h.end_ m re
      · subst e2
        cases r2
        rw [List.append_nil] at h
        exact h.end_ m rd
    · exact h.elim
  · split at h
    · rename_i ds es h1 h2
      split at h
      · rename_i hz
        obtain ⟨a, vs, rfl, q1, r1⟩ := lstM_ok m rd h1
        obtain ⟨b, ws, rfl, q2, r2⟩ := lstM_ok m re h2
        exact .inr (.inr ⟨a, b, vs, ws, rfl, rfl, q1, q2, by rw [← r1.length, ← r2.length]; exact szOk.le hz, new_lst m (r1.append r2) h⟩)
      · exact h.elim
    · exact h.elim
/-- two ints -/
def opII (f : Int → Int → D) (d e : D) (M : Mem) : Res D := match d, e with
  | .int i, .int j => .ok (f i j) M
  | _, _ => .bad
open Classical in
noncomputable def opIC (C : Int → Int → Prop) (f : Int → Int → D) (d e : D) (M : Mem) : Res D := match d, e with
  | .int i, .int j => if C i j then .ok (f i j) M else .bad
  | _, _ => .bad
theorem rs_II {K : PySem.W.Frag} {f : Int → Int → V} {g : Int → Int → D} (hg : ∀ i j L H, Is K L H (g i j) (f i j)) : RS2 K (rI0 f) (opII g) := by
  intro E L H M d e x y Q m rd re h
  unfold opII at h
  split at h
  · cases rd; cases re
    exact ⟨_, _, rfl, rfl, h.end_ m (hg _ _ _ _)⟩
  · exact h.elim
theorem rs_IC {K : PySem.W.Frag} {C : Int → Int → Prop} {f : Int → Int → V} {g : Int → Int → D} (hg : ∀ i j L H, Is K L H (g i j) (f i j)) : RS2 K (rI C f) (opIC C g) := by
  intro E L H M d e x y Q m rd re h
  unfold opIC at h
  split at h
  · split at h
    · rename_i hc
      cases rd; cases re
      exact ⟨_, _, rfl, rfl, hc, h.end_ m (hg _ _ _ _)⟩
    · exact h.elim
  · exact h.elim
abbrev opSub := opII fun i j => .int (i - j)
noncomputable abbrev opFdiv := opIC CDivN fun i j => .int (i.fdiv j)
noncomputable abbrev opFdivW := opIC CDivW fun i j => .int (i / j)
noncomputable abbrev opMod := opIC (fun _ j => j ≠ 0) fun i j => .int (i.fmod j)
noncomputable abbrev opPow := opIC CPow fun i j => .int (i ^ j.toNat)
noncomputable abbrev opShl := opIC CPow fun i j => .int (i * 2 ^ j.toNat)
theorem rs_sub {K : PySem.W.Frag} : RS2 K (rI0 fun i j => .int (i - j)) opSub := rs_II fun _ _ _ _ => .int _
theorem rs_fdiv {K : PySem.W.Frag} : RS2 K (rI CDivN fun i j => .int (i.fdiv j)) opFdiv := rs_IC fun _ _ _ _ => .int _
theorem rs_fdivW {K : PySem.W.Frag} : RS2 K (rI CDivW fun i j => .int (i / j)) opFdivW := rs_IC fun _ _ _ _ => .int _
theorem rs_mod {K : PySem.W.Frag} : RS2 K (rI (fun _ j => j ≠ 0) fun i j => .int (i.fmod j)) opMod := rs_IC fun _ _ _ _ => .int _
theorem rs_pow {K : PySem.W.Frag} : RS2 K (rI CPow fun i j => .int (i ^ j.toNat)) opPow := rs_IC fun _ _ _ _ => .int _
theorem rs_shl {K : PySem.W.Frag} : RS2 K (rI CPow fun i j => .int (i * 2 ^ j.toNat)) opShl := rs_IC fun _ _ _ _ => .int _
abbrev opLt := opII fun i j => .bl (decide (i < j))
abbrev opLe := opII fun i j => .bl (decide (i ≤ j))
abbrev opGt := opII fun i j => .bl (decide (j < i))
abbrev opGe := opII fun i j => .bl (decide (j ≤ i))
theorem rs_lt {K : PySem.W.Frag} : RS2 K (rI0 fun i j => .bl (decide (i < j))) opLt := rs_II fun _ _ _ _ => .bl _
theorem rs_le {K : PySem.W.Frag} : RS2 K (rI0 fun i j => .bl (decide (i ≤ j))) opLe := rs_II fun _ _ _ _ => .bl _
theorem rs_gt {K : PySem.W.Frag} : RS2 K (rI0 fun i j => .bl (decide (j < i))) opGt := rs_II fun _ _ _ _ => .bl _
theorem rs_ge {K : PySem.W.Frag} : RS2 K (rI0 fun i j => .bl (decide (j ≤ i))) opGe := rs_II fun _ _ _ _ => .bl _
/-! a * b: ints, a list many times -/
open Classical in
noncomputable def opMul (d e : D) (M : Mem) : Res D := match d, e with
  | .int i, .int j => if CMulW i j then .ok (.int (i * j)) M else .bad
  | d, .int k => (match lstM d M with
    | some ds => if 0 ≤ k ∧ k ≤ 100000 ∧ szOk (ds.length * k.toNat) = true then .ok (.lst (List.replicate k.toNat ds).flatten) M else .bad
    | none => .bad)
  | _, _ => .bad
theorem op_mulA {X : Cx} : OpR X (binaryOp .Mult) (fun x y H Q => (rI CMulW fun i j => .int (i * j)) x y H Q ∨ rRep x y H Q) := op_mulW.or op_rep
theorem IsL.rep {K : PySem.W.Frag} {L : Wd} {H : Hp} {ds : List D} {vs : List V} (r : IsL K L H ds vs) : ∀ n : Nat, IsL K L H (List.replicate n ds).flatten (List.replicate n vs).flatten
  | 0 => .nil
  | n + 1 => by
    rw [List.replicate_succ, List.replicate_succ, List.flatten_cons, List.flatten_cons]
    exact r.append (IsL.rep r n)
theorem rs_mul {K : PySem.W.Frag} : RS2 K (fun x y H Q => (rI CMulW fun i j => .int (i * j)) x y H Q ∨ rRep x y H Q) opMul := by
  intro E L H M d e x y Q m rd re h
  unfold opMul at h
  split at h
  · split at h
    · rename_i hc
      cases rd; cases re
      exact .inl ⟨_, _, rfl, rfl, hc, h.end_ m (.int _)⟩
    · exact h.elim
  · rename_i k _
    split at h
    · rename_i ds h1
      split at h
      · rename_i hc
        obtain ⟨a, vs, rfl, q1, r1⟩ := lstM_ok m rd h1
        cases re
        exact .inr ⟨a, k, vs, rfl, rfl, q1, by omega, by omega, by rw [← r1.length]; exact szOk.le hc.2.2, new_lst m (r1.rep _) h⟩
      · exact h.elim
    · exact h.elim
  · exact h.elim
/-! ### ==, != -/
mutual
def pdOf : D → Option PyData
  | .non => some .none
  | .bl b => some (.bool b)
  | .int i => some (.int i)
  | .str x => some (.str x)
  | .tup ds => (pdAll ds).map .tuple
  | .lst ds => (pdAll ds).map .list
  | .scr ds => (pdAll ds).map .list
  | _ => none
def pdAll : List D → Option (List PyData)
  | [] => some []
  | d :: ds => (pdOf d).bind fun p => (pdAll ds).map fun ps => p :: ps
end
def pdM (M : Mem) (d : D) : Option PyData := match d with
  | .ref n => (match M[n]? with
    | some (.lst ds) => (pdAll ds).map .list
    | _ => none)
  | d => pdOf d
section
variable {K : PySem.W.Frag} {L : Wd} {H : Hp}
mutual
theorem pdOf_ok : ∀ {d : D} {v : V} {p : PyData}, Is K L H d v → pdOf d = some p → Dp K H v p
  | _, _, _, .non, h => by unfold pdOf at h; cases h; exact .non
  | _, _, _, .bl b, h => by unfold pdOf at h; cases h; exact .bl b
  | _, _, _, .int b, h => by unfold pdOf at h; cases h; exact .int b
  | _, _, _, .str b, h => by unfold pdOf at h; cases h; exact .str b
  | _, _, _, .tup q n r, h => by
    unfold pdOf at h
    obtain ⟨ps, e, rfl⟩ := Option.map_eq_some_iff.mp h
    exact .tup (.inl q) (pdAll_ok r e)
  | _, _, _, .tupK q r, h => by
    unfold pdOf at h
    obtain ⟨ps, e, rfl⟩ := Option.map_eq_some_iff.mp h
    exact .tup (.inr q) (pdAll_ok r e)
  | _, _, _, .lst q n r, h => by
    unfold pdOf at h
    obtain ⟨ps, e, rfl⟩ := Option.map_eq_some_iff.mp h
    exact .lst (.inl (.inl q)) (pdAll_ok r e)
  | _, _, _, .scr q n r, h => by
    unfold pdOf at h
    obtain ⟨ps, e, rfl⟩ := Option.map_eq_some_iff.mp h
    exact .lst (.inl q) (pdAll_ok r e)
  | _, _, _, .scrK q r, h => by
    unfold pdOf at h
    obtain ⟨ps, e, rfl⟩ := Option.map_eq_some_iff.mp h
    exact .lst (.inr q) (pdAll_ok r e)
  | _, _, _, .ty n, h => by unfold pdOf at h; cases h
  | _, _, _, .adr n, h => by unfold pdOf at h; cases h
  | _, _, _, .dic _ _ _, h => by unfold pdOf at h; cases h
  | _, _, _, .obj _ _ _, h => by unfold pdOf at h; cases h
  | _, _, _, .ref _, h => by unfold pdOf at h; cases h
theorem pdAll_ok : ∀ {ds : List D} {vs : List V} {ps : List PyData}, IsL K L H ds vs → pdAll ds = some ps → DpAll K H vs ps
  | _, _, _, .nil, h => by unfold pdAll at h; cases h; exact .nil
  | _, _, _, .cons a b, h => by
    unfold pdAll at h
    obtain ⟨p, e1, h⟩ := Option.bind_eq_some_iff.mp h
    obtain ⟨qs, e2, rfl⟩ := Option.map_eq_some_iff.mp h
    exact .cons (pdOf_ok a e1) (pdAll_ok b e2)
end
theorem pdM_ok {M : Mem} (m : MemIs K L H M) {d : D} {v : V} {p : PyData} (r : Is K L H d v) (h : pdM M d = some p) : Dp K H v p := by
  unfold pdM at h
  split at h
  · rename_i n
    split at h
    · rename_i ds q
      obtain ⟨ps, e, rfl⟩ := Option.map_eq_some_iff.mp h
      obtain ⟨a, rfl, q'⟩ := ref_inv r
      obtain ⟨vs, q2, r2⟩ := m.cell n a _ q' q
      exact .lst (.inl (.inl q2)) (pdAll_ok r2 e)
    · cases h
  · exact pdOf_ok r h
end
/-- == as Python has it, over data without objects -/
def eqM (M : Mem) (d e : D) : Option Bool := match pdM M d, pdM M e with
  | some p, some q => if SeqAt.shaped p && SeqAt.shaped q then some (PyData.eqv p q) else none
  | _, _ => none
def opEq (d e : D) (M : Mem) : Res D := match d, e with
  | .int i, .int j => .ok (.bl (decide (i = j))) M
  | .str x, .str y => .ok (.bl (decide (x = y))) M
  | .bl x, .bl y => .ok (.bl (decide (x = y))) M
  | d, e => (match eqM M d e with
    | some b => .ok (.bl b) M
    | none => .bad)
def opNe (d e : D) (M : Mem) : Res D := match d, e with
  | .int i, .int j => .ok (.bl (!decide (i = j))) M
  | .str x, .str y => .ok (.bl (!decide (x = y))) M
  | .bl x, .bl y => .ok (.bl (!decide (x = y))) M
  | d, e => (match eqM M d e with
    | some b => .ok (.bl (!b)) M
    | none => .bad)
theorem op_eqA {X : Cx} (hu : X.A.units + 64 < cLine) : OpR X (compareOp .Eq) (fun x y H Q => rEq x y H Q ∨ rEqD X.K x y H Q) := op_eq.or (op_eqD hu)
theorem op_neA {X : Cx} (hu : X.A.units + 64 < cLine) : OpR X (compareOp .NotEq) (fun x y H Q => rNe x y H Q ∨ rNeD X.K x y H Q) := op_ne.or (op_neD hu)
theorem eqM_ok {K : PySem.W.Frag} {L : Wd} {H : Hp} {M : Mem} (m : MemIs K L H M) {d e : D} {v w : V} {b : Bool} (rd : Is K L H d v) (re : Is K L H e w) (h : eqM M d e = some b) :
    ∃ p q, Dp K H v p ∧ Dp K H w q ∧ SeqAt.shaped p = true ∧ SeqAt.shaped q = true ∧ PyData.eqv p q = b := by
  unfold eqM at h
  split at h
  · rename_i p q h1 h2
    split at h
    · rename_i hz
      cases h
      exact ⟨p, q, pdM_ok m rd h1, pdM_ok m re h2, and_l hz, and_r hz, rfl⟩
    · cases h
  · cases h
theorem rs_eq {K : PySem.W.Frag} : RS2 K (fun x y H Q => rEq x y H Q ∨ rEqD K x y H Q) opEq := by
  intro E L H M d e x y Q m rd re h
  unfold opEq at h
  split at h
  · cases rd; cases re
    rename_i i j
    exact .inl ⟨rfl, by have := h.end_ m (.bl _); rw [show decide (V.int i = V.int j) = decide (i = j) by rw [dec_int]; exact Bool.beq_eq_decide_eq _ _]; exact this⟩
  · cases rd; cases re
    rename_i i j
    exact .inl ⟨rfl, by have := h.end_ m (.bl _); rw [show decide (V.str i = V.str j) = decide (i = j) by by_cases q : i = j <;> simp [q]]; exact this⟩
  · cases rd; cases re
    rename_i i j
    exact .inl ⟨rfl, by have := h.end_ m (.bl _); rw [show decide (V.bl i = V.bl j) = decide (i = j) by by_cases q : i = j <;> simp [q]]; exact this⟩
  · split at h
    · rename_i b eq
      obtain ⟨p, q, a1, a2, a3, a4, rfl⟩ := eqM_ok m rd re eq
      exact .inr ⟨p, q, a1, a2, a3, a4, h.end_ m (.bl _)⟩
    · exact h.elim
theorem rs_ne {K : PySem.W.Frag} : RS2 K (fun x y H Q => rNe x y H Q ∨ rNeD K x y H Q) opNe := by
  intro E L H M d e x y Q m rd re h
  unfold opNe at h
  split at h
  · cases rd; cases re
    rename_i i j
    exact .inl ⟨rfl, by have := h.end_ m (.bl _); rw [show decide (V.int i = V.int j) = decide (i = j) by by_cases q : i = j <;> simp [q]]; exact this⟩
  · cases rd; cases re
    rename_i i j
    exact .inl ⟨rfl, by have := h.end_ m (.bl _); rw [show decide (V.str i = V.str j) = decide (i = j) by by_cases q : i = j <;> simp [q]]; exact this⟩
  · cases rd; cases re
    rename_i i j
    exact .inl ⟨rfl, by have := h.end_ m (.bl _); rw [show decide (V.bl i = V.bl j) = decide (i = j) by by_cases q : i = j <;> simp [q]]; exact this⟩
  · split at h
    · rename_i b eq
      obtain ⟨p, q, a1, a2, a3, a4, rfl⟩ := eqM_ok m rd re eq
      exact .inr ⟨p, q, a1, a2, a3, a4, h.end_ m (.bl _)⟩
    · exact h.elim
end Ly

namespace Ly
open PySem PySem.Spec PyProof.Rows L2
/-! ### flat things, keys -/
def flatD : D → Bool
  | .non => true
  | .bl _ => true
  | .int _ => true
  | .str _ => true
  | _ => false
def eqFD : D → D → Bool
  | .non, .non => true
  | .bl a, .bl b => a == b
  | .bl a, .int b => (if a then 1 else 0) == b
  | .int a, .bl b => a == (if b then 1 else 0)
  | .int a, .int b => a == b
  | .str a, .str b => a == b
  | _, _ => false
def inD (x : D) (ds : List D) : Bool := ds.any fun y => eqFD y x
def keyOf : D → Option Key
  | .int i => some (.inl i)
  | .str x => some (.inr x)
  | _ => none
def valD (kvs : List (Key × D)) (k : Key) : Option D := (kvs.find? fun kv => decide (kv.1 = k)).map (·.2)
def putD (kvs : List (Key × D)) (k : Key) (v : D) : List (Key × D) :=
  if (kvs.any fun kv => decide (kv.1 = k)) = true then kvs.map (fun kv => if kv.1 = k then (kv.1, v) else kv) else kvs ++ [(k, v)]
def mergeD (kvs more : List (Key × D)) : List (Key × D) := more.foldl (fun acc kv => putD acc kv.1 kv.2) kvs
section
variable {K : PySem.W.Frag} {L : Wd} {H : Hp} {M : Mem} {d e : D} {v w : V} {ds : List D}
theorem flat_ok (r : Is K L H d v) (h : flatD d = true) : flatV v = true := by
  cases r <;> first | rfl | exact nomatch (h : false = true)
theorem eqF_ok (r : Is K L H d v) (q : Is K L H e w) (h : flatD d = true) (h' : flatD e = true) : eqV v w = eqFD d e := by
  cases r <;> first | exact nomatch (h : false = true) | (cases q <;> first | exact nomatch (h' : false = true) | rfl)
theorem flatAll_ok : ∀ {ds : List D} {vs : List V}, IsL K L H ds vs → ds.all flatD = true → vs.all flatV = true
  | _, _, .nil, _ => rfl
  | _, _, .cons a b, h => by
    rw [List.all_cons] at h ⊢
    rw [flat_ok a (and_l h), flatAll_ok b (and_r h)]
    rfl
theorem in_ok (r : Is K L H d v) (h : flatD d = true) : ∀ {ds : List D} {vs : List V}, IsL K L H ds vs → ds.all flatD = true → inV v vs = inD d ds
  | _, _, .nil, _ => rfl
  | _, _, .cons a b, q => by
    rw [List.all_cons] at q
    unfold inV inD
    rw [List.any_cons, List.any_cons, eqF_ok a r (and_l q) h]
    have := in_ok r h b (and_r q)
    unfold inV inD at this
    rw [this]
theorem key_ok {k : Key} (r : Is K L H d v) (h : keyOf d = some k) : v = kV k := by
  cases r <;> first | (cases h; rfl) | cases h
theorem val_ok (k : Key) : ∀ {kvs : List (Key × D)} {kws : List (Key × V)}, IsKV K L H kvs kws → (∀ d, valD kvs k = some d → ∃ v, valV kws k = some v ∧ Is K L H d v) ∧ (valD kvs k = none → valV kws k = none)
  | _, _, .nil => ⟨fun _ h => (nomatch h), fun _ => rfl⟩
  | _, _, @IsKV.cons _ _ _ k' d v ds vs a b => by
    by_cases e : k' = k
    · have h1 : valD ((k', d) :: ds) k = some d := by simp [valD, e]
      have h2 : valV ((k', v) :: vs) k = some v := valV_pos e
      refine ⟨fun d' h => ⟨v, h2, ?_⟩, fun h => ?_⟩
      · rw [h1] at h
        cases h
        exact a
      · rw [h1] at h
        cases h
    · have h1 : valD ((k', d) :: ds) k = valD ds k := by simp [valD, List.find?_cons, e]
      have h2 : valV ((k', v) :: vs) k = valV vs k := valV_neg e
      rw [h1, h2]
      exact val_ok k b
theorem IsKV.length : ∀ {kvs : List (Key × D)} {kws : List (Key × V)}, IsKV K L H kvs kws → kvs.length = kws.length
  | _, _, .nil => rfl
  | _, _, .cons _ b => by rw [List.length_cons, List.length_cons, IsKV.length b]
theorem IsKV.append : ∀ {ds es : List (Key × D)} {vs ws : List (Key × V)}, IsKV K L H ds vs → IsKV K L H es ws → IsKV K L H (ds ++ es) (vs ++ ws)
  | _, _, _, _, .nil, s => s
  | _, _, _, _, .cons r t, s => .cons r (IsKV.append t s)
theorem any_ok (k : Key) : ∀ {kvs : List (Key × D)} {kws : List (Key × V)}, IsKV K L H kvs kws → (kvs.any fun kv => decide (kv.1 = k)) = (kws.any fun kv => decide (kv.1 = k))
  | _, _, .nil => rfl
  | _, _, .cons _ b => by rw [List.any_cons, List.any_cons, any_ok k b]
theorem map_ok {k : Key} (r : Is K L H d v) : ∀ {kvs : List (Key × D)} {kws : List (Key × V)}, IsKV K L H kvs kws → IsKV K L H (kvs.map (fun kv => if kv.1 = k then (kv.1, d) else kv)) (kws.map (fun kv => if kv.1 = k then (kv.1, v) else kv))
  | _, _, .nil => .nil
  | _, _, @IsKV.cons _ _ _ k' d' v' ds vs a b => by
    rw [List.map_cons, List.map_cons]
    by_cases e : k' = k
    · rw [if_pos e, if_pos e]
      exact .cons r (map_ok r b)
    · rw [if_neg e, if_neg e]
      exact .cons a (map_ok r b)
theorem put_ok {k : Key} (r : Is K L H d v) {kvs : List (Key × D)} {kws : List (Key × V)} (h : IsKV K L H kvs kws) : IsKV K L H (putD kvs k d) (putK kws k v) := by
  unfold putD putK
  rw [any_ok k h]
  split
  · exact map_ok r h
  · exact h.append (.cons r .nil)
theorem merge_ok : ∀ {more : List (Key × D)} {mws : List (Key × V)} {kvs : List (Key × D)} {kws : List (Key × V)}, IsKV K L H more mws → IsKV K L H kvs kws → IsKV K L H (mergeD kvs more) (mergeK kws mws)
  | _, _, _, _, .nil, h => h
  | _, _, _, _, @IsKV.cons _ _ _ k' _ _ _ _ a b, h => merge_ok (kvs := putD _ k' _) (kws := putK _ k' _) b (put_ok (k := k') a h)
end
/-! ### in, not in -/
def strIn (x z : Str) : Bool := match x.cps.toList with
  | [c] => decide (c ∈ z.cps.toList)
  | _ => !(Builtin.Str.occurrences z x 0 z.length 1).isEmpty
def inM (M : Mem) (d e : D) : Option Bool := match d, e with
  | .str x, .str z => some (strIn x z)
  | d, e => (match dicOf e M with
    | some kvs => (keyOf d).map fun k => (valD kvs k).isSome
    | none => (match seqOf e M with
      | some ds => if flatD d && ds.all flatD then some (inD d ds) else none
      | none => none))
def opIn (d e : D) (M : Mem) : Res D := match inM M d e with
  | some b => .ok (.bl b) M
  | none => .bad
def opNotIn (d e : D) (M : Mem) : Res D := match inM M d e with
  | some b => .ok (.bl (!b)) M
  | none => .bad
def rInA (K : PySem.W.Frag) (f : Bool → Bool) : R2 := fun x y H Q =>
  ((∃ (c : Nat) (z : Str), x = .str ⟨#[c]⟩ ∧ y = .str z ∧ Q (.bl (f (decide (c ∈ z.cps.toList)))) H) ∨ (∃ i j, x = .str i ∧ y = .str j ∧ Q (.bl (f (!(Builtin.Str.occurrences j i 0 j.length 1).isEmpty))) H)) ∨
  ((∃ a o, y = .ref a ∧ DGet H a x o ∧ Q (.bl (f o.isSome)) H) ∨ (∃ p xs, y = .ref p ∧ (SqL K H p xs ∨ SqT K H p xs) ∧ flatV x = true ∧ xs.all flatV = true ∧ Q (.bl (f (inV x xs))) H))
theorem op_in_dict {X : Cx} (hu : X.A.units + 1 < cLine) : OpR X (compareOp .In) (fun x y H Q => ∃ a o, y = .ref a ∧ DGet H a x o ∧ Q (.bl o.isSome) H) := by
  intro pins s σ H x y v u Q I rx ry ⟨a, o, e, g, q⟩
  subst e
  obtain rfl : u = Value.ref a := ry
  exact d_in hu I g rx fun s3 I3 => ⟨.bl o.isSome, H, I3, rfl, q⟩
theorem op_notin_dict {X : Cx} (hu : X.A.units + 1 < cLine) : OpR X (compareOp .NotIn) (fun x y H Q => ∃ a o, y = .ref a ∧ DGet H a x o ∧ Q (.bl (!o.isSome)) H) := by
  intro pins s σ H x y v u Q I rx ry ⟨a, o, e, g, q⟩
  subst e
  obtain rfl : u = Value.ref a := ry
  exact d_notIn hu I g rx fun s3 I3 => ⟨.bl (!o.isSome), H, I3, rfl, q⟩
theorem op_inA {X : Cx} (hu : X.A.units + 1 < cLine) : OpR X (compareOp .In) (rInA X.K id) := (op_in_sign.or op_in_str).or ((op_in_dict hu).or op_in_seq)
theorem op_notInA {X : Cx} (hu : X.A.units + 1 < cLine) : OpR X (compareOp .NotIn) (rInA X.K not) := (op_notIn_sign.or op_notin_str).or ((op_notin_dict hu).or op_notIn_seq)
theorem inM_ok {K : PySem.W.Frag} {f : Bool → Bool} {L : Wd} {H : Hp} {M : Mem} {d e : D} {x y : V} {Q : VK} {b : Bool} (m : MemIs K L H M) (rd : Is K L H d x) (re : Is K L H e y) (h : inM M d e = some b) (q : Q (.bl (f b)) H) : rInA K f x y H Q := by
  unfold inM at h
  split at h
  · rename_i x z
    cases rd; cases re
    cases h
    unfold strIn at q
    split at q
    · rename_i c hc
      refine .inl (.inl ⟨c, z, ?_, rfl, q⟩)
      obtain ⟨⟨l⟩⟩ := x
      simp at hc
      subst hc
      rfl
    · exact .inl (.inr ⟨_, _, rfl, rfl, q⟩)
  · split at h
    · rename_i kvs hd
      obtain ⟨a, kws, rfl, q1, r1⟩ := dicOf_ok m re hd
      obtain ⟨k, hk, rfl⟩ := Option.map_eq_some_iff.mp h
      obtain rfl := key_ok rd hk
      refine .inr (.inl ⟨a, valV kws k, rfl, DGet.k q1, ?_⟩)
      obtain ⟨z1, z2⟩ := val_ok k r1
      cases hv : valD kvs k with
      | none =>
        rw [z2 hv]
        rw [hv] at q
        exact q
      | some d' =>
        obtain ⟨v', e1, _⟩ := z1 d' hv
        rw [e1]
        rw [hv] at q
        exact q
    · split at h
      · rename_i ds hs
        split at h
        · rename_i hf
          cases h
          obtain ⟨a, vs, rfl, q1, r1⟩ := seqOf_ok m re hs
          exact .inr (.inr ⟨a, vs, rfl, q1, flat_ok rd (and_l hf), flatAll_ok r1 (and_r hf), by rw [in_ok rd (and_l hf) r1 (and_r hf)]; exact q⟩)
        · cases h
      · cases h
theorem rs_in {K : PySem.W.Frag} : RS2 K (rInA K id) opIn := by
  intro E L H M d e x y Q m rd re h
  unfold opIn at h
  split at h
  · rename_i b hb
    exact inM_ok m rd re hb (h.end_ m (.bl _))
  · exact h.elim
theorem rs_notIn {K : PySem.W.Frag} : RS2 K (rInA K not) opNotIn := by
  intro E L H M d e x y Q m rd re h
  unfold opNotIn at h
  split at h
  · rename_i b hb
    exact inM_ok m rd re hb (h.end_ m (.bl _))
  · exact h.elim
/-! ### x[i] -/
def opIx (d e : D) (M : Mem) : Res D := match d, e with
  | .str z, .int i => if szOk z.length then (match atI z.cps.toList i with
    | some c => .ok (.str ⟨#[c]⟩) M
    | none => .bad) else .bad
  | d, e => (match dicOf d M with
    | some kvs => (match (keyOf e).bind (valD kvs) with
      | some v => .ok v M
      | none => .bad)
    | none => (match seqOf d M, e with
      | some ds, .int i => (match atI ds i with
        | some v => .ok v M
        | none => .bad)
      | _, _ => .bad))
def rIxA (K : PySem.W.Frag) : R2 := fun x y H Q => rIx K x y H Q ∨ ∃ a v, x = .ref a ∧ DGet H a y (some v) ∧ Q v H
theorem ix_dict {X : Cx} (hu : X.A.units + 1 < cLine) : IxR X (fun x y H Q => ∃ a v, x = .ref a ∧ DGet H a y (some v) ∧ Q v H) := by
  intro value slice pins s σ H x y v u Q I rx ry ⟨a, w, e, g, q⟩ hs
  subst e
  obtain rfl : v = Value.ref a := rx
  exact PyProof.Rows.tail_any (dict_typeIs I g) PySem.F.slot_dict_getitem.lookup (d_getItem hu I g ry fun w' s3 I3 rw' => ⟨w, H, I3, rw', q⟩) hs
theorem ix_any {X : Cx} (hu : X.A.units + 1 < cLine) : IxR X (rIxA X.K) := ix_seq.or (ix_dict hu)
theorem atI_ok {K : PySem.W.Frag} {L : Wd} {H : Hp} {ds : List D} {vs : List V} {i : Int} {d : D} (r : IsL K L H ds vs) (h : atI ds i = some d) : ∃ v, atI vs i = some v ∧ Is K L H d v := by
  unfold atI at h ⊢
  rw [r.length] at h
  obtain ⟨j, h1, h2⟩ := Option.bind_eq_some_iff.mp h
  obtain ⟨v, h3, h4⟩ := r.get h2
  exact ⟨v, by rw [h1]; exact h3, h4⟩
theorem rs_ix {K : PySem.W.Frag} : RS2 K (rIxA K) opIx := by
  intro E L H M d e x y Q m rd re h
  unfold opIx at h
  split at h
  · split at h
    · rename_i hz
      split at h
      · rename_i c hc
        cases rd; cases re
        exact .inl (.inr (.inr ⟨_, _, c, rfl, rfl, szOk.le hz, hc, h.end_ m (.str _)⟩))
      · exact h.elim
    · exact h.elim
  · split at h
    · rename_i kvs hd
      split at h
      · rename_i v hv
        obtain ⟨k, hk, hv⟩ := Option.bind_eq_some_iff.mp hv
        obtain ⟨a, kws, rfl, q1, r1⟩ := dicOf_ok m rd hd
        obtain rfl := key_ok re hk
        obtain ⟨v', e1, r'⟩ := (val_ok k r1).1 v hv
        exact .inr ⟨a, v', rfl, by rw [← e1]; exact DGet.k q1, h.end_ m r'⟩
      · exact h.elim
    · split at h
      · rename_i ds i hs
        split at h
        · rename_i v hv
          obtain ⟨a, vs, rfl, q1, r1⟩ := seqOf_ok m rd ‹seqOf d M = some _›
          obtain ⟨v', e1, r'⟩ := atI_ok r1 hv
          cases re
          rcases q1 with q1 | q1
          · exact .inl (.inl ⟨a, vs, _, v', rfl, rfl, q1, e1, h.end_ m r'⟩)
          · exact .inl (.inr (.inl ⟨a, vs, _, v', rfl, rfl, q1, e1, h.end_ m r'⟩))
        · exact h.elim
      · exact h.elim
section
variable {G : Gd} {k : Nat} {E : XK} {N : List Str} {sc : Scope} {X : Cx} {a b e o : Expr} {es : List Expr} {ma mb mo : ME} {mr : MA} {pos p2 apos cpos : Pos}
theorem ce_ix (c : Cq G k E N sc X) (ha : PE X a (tD G.K E ma)) (hb : PE X b (tD G.K E mb)) (hs : PlainIx b := by intro _ _; rfl) : PE X (.Subscript a b pos) (tD G.K E (mBin opIx ma mb)) := by
  obtain rfl := c.g
  exact (pe_ix (ix_any (hu_of c.room)) ha hb hs).imp fun _ _ _ h => op_sim rs_ix h
/-! ### x[lo:hi] -/
abbrev MO := Env → Mem → Res (Option Int)
def tOD (K : PySem.W.Frag) (E : XK) (m : MO) : TO := fun σ H Q => ∃ env L M, EnvIs K L H env σ ∧ MemIs K L H M ∧ Fin (fun _ _ a b => a = b) K E L H (m env M) Q
def mNoPart : MO := fun _ M => .ok none M
def mPart (a : ME) : MO := fun env M => (a env M).bind fun d M1 => match d with
  | .int i => .ok (some i) M1
  | _ => .bad
theorem co_none : PO X none (tOD G.K E mNoPart) := ⟨fun pins s σ H Q I ⟨env, L, M, he, hm, h⟩ => po_none.run pins s σ H Q I (h.end_ hm rfl)⟩
theorem co_some (ha : PE X a (tD G.K E ma)) : PO X (some a) (tOD G.K E (mPart ma)) := ⟨fun pins s σ H Q I ⟨env, L, M, he, hm, h⟩ => (po_some ha).run pins s σ H Q I
  ⟨env, L, M, he, hm, Fin.imp (Fin.bind h) fun x H1 ⟨d, M1, L1, s1, m1, r1, h1⟩ => by
    cases r1 with
    | int i => exact ⟨i, rfl, h1.end_ m1 rfl⟩
    | _ => exact h1.elim⟩⟩
def cutD (ds : List D) (lo hi : Option Int) : List D := (ds.drop (HT.sIx ds.length 0 lo)).take (HT.sIx ds.length ds.length hi - HT.sIx ds.length 0 lo)
theorem cut_ok {K : PySem.W.Frag} {L : Wd} {H : Hp} {ds : List D} {vs : List V} {lo hi : Option Int} (r : IsL K L H ds vs) : IsL K L H (cutD ds lo hi) (cutV vs lo hi) := by
  unfold cutD cutV
  rw [r.length]
  exact (r.drop _).take _
def opSl (d : D) (lo hi : Option Int) (M : Mem) : Res D := match d with
  | .str z => if szOk z.length then .ok (.str (cutS z lo hi)) M else .bad
  | .tup ds => .ok (.tup (cutD ds lo hi)) M
  | d => (match lstOf d M with
    | some ds => .ok (.lst (cutD ds lo hi)) M
    | none => .bad)
def mSl (a : ME) (lo hi : MO) : ME := fun env M => (a env M).bind fun d M1 => (lo env M1).bind fun l M2 => (hi env M2).bind fun u M3 => opSl d l u M3
theorem sl_any : SlR X (fun x lo hi H Q => (rSlS x lo hi H Q ∨ rSlA X.K x lo hi H Q) ∨ rSlL X.K x lo hi H Q) := (sl_str.or sl_tupA).or sl_list
theorem ce_sl {lo hi : Option Expr} {ml mh : MO} (c : Cq G k E N sc X) (ha : PE X a (tD G.K E ma)) (hl : PO X lo (tOD G.K E ml)) (hh : PO X hi (tOD G.K E mh)) : PE X (.Subscript a (.Slice lo hi none p2) pos) (tD G.K E (mSl ma ml mh)) := by
  obtain rfl := c.g
  refine (pe_slice sl_any ha hl hh).imp fun σ H Q ⟨env, L, M, he, hm, h⟩ => ?_
  refine ⟨env, L, M, he, hm, Fin.imp (Fin.bind h) fun x H1 ⟨d, M1, L1, s1, m1, r1, h1⟩ => ?_⟩
  refine ⟨env, L1, M1, he.step s1, m1, Fin.imp (Fin.bind h1) fun l H2 ⟨l', M2, L2, s2, m2, r2, h2⟩ => ?_⟩
  cases r2
  refine ⟨env, L2, M2, (he.step s1).step s2, m2, Fin.imp (Fin.bind h2) fun u H3 ⟨u', M3, L3, s3, m3, r3, h3⟩ => ?_⟩
  cases r3
  have r1 := (r1.step s2).step s3
  unfold opSl at h3
  split at h3
  · split at h3
    · rename_i hz
      cases r1
      exact .inl (.inl ⟨_, rfl, szOk.le hz, h3.end_ m3 (.str _)⟩)
    · exact h3.elim
  · rename_i ds
    obtain ⟨ad, vs, rfl, q, r⟩ := r1.tup_inv
    refine .inl (.inr ⟨ad, vs, rfl, q, fun ⟨e1, e2⟩ => ?_, fun _ => new_tup m3 (cut_ok r) h3⟩)
    have cq : ∀ ds' : List D, ds'.length = vs.length → cutD ds' l u = ds' := fun ds' hl => by
      unfold cutD
      rw [hl, e1, e2, List.drop_zero, Nat.sub_zero, ← hl, List.take_length]
    rw [cq _ r.length] at h3
    exact h3.end_ m3 r1
  · split at h3
    · rename_i ds hd
      obtain ⟨ad, vs, rfl, q, r⟩ := lstOf_ok m3 r1 hd
      exact .inr ⟨ad, vs, rfl, q, new_lst m3 (cut_ok r) h3⟩
    · exact h3.elim
/-- x[::-1] of a list -/
def opRev (d : D) (M : Mem) : Res D := match lstOf d M with
  | some ds => .ok (.lst ds.reverse) M
  | none => .bad
theorem ce_rev {kk : Nat} {p1 p2 p3 : Pos} (c : Cq G k E N sc X) (ha : PE X a (tD G.K E ma)) : PE X (.Subscript a (.Slice none none (some (.UnaryOp .USub (.Constant (.int 1) kk p1) p2)) p3) pos) (tD G.K E (mUn opRev ma)) := by
  obtain rfl := c.g
  refine (pe_revL ha).imp fun σ H Q ⟨env, L, M, he, hm, h⟩ => ?_
  refine ⟨env, L, M, he, hm, Fin.imp (Fin.bind h) fun x H1 ⟨d, M1, L1, s1, m1, r1, h1⟩ => ?_⟩
  unfold opRev at h1
  split at h1
  · rename_i ds hd
    obtain ⟨ad, vs, rfl, q, r⟩ := lstOf_ok m1 r1 hd
    exact ⟨ad, vs, rfl, q, new_lst m1 r.reverse h1⟩
  · exact h1.elim
/-- .. as a cell -/
def opRevC (d : D) (M : Mem) : Res D := match lstOf d M with
  | some ds => .ok (.ref M.length) (M ++ [.lst ds.reverse])
  | none => .bad
theorem ce_revC {kk : Nat} {p1 p2 p3 : Pos} (c : Cq G k E N sc X) (ha : PE X a (tD G.K E ma)) : PE X (.Subscript a (.Slice none none (some (.UnaryOp .USub (.Constant (.int 1) kk p1) p2)) p3) pos) (tD G.K E (mUn opRevC ma)) := by
  obtain rfl := c.g
  refine (pe_revL ha).imp fun σ H Q ⟨env, L, M, he, hm, h⟩ => ?_
  refine ⟨env, L, M, he, hm, Fin.imp (Fin.bind h) fun x H1 ⟨d, M1, L1, s1, m1, r1, h1⟩ => ?_⟩
  unfold opRevC at h1
  split at h1
  · rename_i ds hd
    obtain ⟨ad, vs, rfl, q, r⟩ := lstOf_ok m1 r1 hd
    exact ⟨ad, vs, rfl, q, new_lstC m1 r.reverse h1⟩
  · exact h1.elim
end
end Ly

namespace L2
open PySem PySem.Spec PyProof.Rows
/-- a.update(b): two dicts -/
def rUpdate : V → List V → Hp → VK → Prop := fun x vs H Q => ∃ a b kvs more, x = .ref a ∧ vs = [.ref b] ∧ a ≠ b ∧ H a = some (.dK kvs) ∧ H b = some (.dK more) ∧ kvs.length + more.length ≤ sizeLine ∧ Q .non (upd H a (.dK (mergeK kvs more)))
theorem mt_update {X : Cx} : MtM X "dict.update" rUpdate := by
  intro pins s σ H x vs v us Q I rx rv h
  obtain ⟨a, b, kvs, more, rfl, rfl, hne, ha, hb, hz, q⟩ := h
  cases rx
  obtain ⟨u, rfl, ru⟩ := rv.one
  cases ru
  obtain ⟨z, hd, vs, rel, dd⟩ := dk_of I.hok ha
  obtain ⟨z2, hd2, vs2, rel2, dd2⟩ := dk_of I.hok hb
  refine call_meetsIn PySem.F.slot_dict_update dd.typeIs PySem.F.entry_dict_update (PySem.F.args_dict_update_2 _ _) (meets_dict_update (mixKind X.prog X.w) a b hne hd2) ⟨vs, vs2, dd, dd2, by rw [← rel.length, ← rel2.length]; exact hz, fun h' dd' _ hs => ?_⟩
  have he : ∃ q, h'.get? a = some q := let ⟨q, _, _, hq, _⟩ := dd'; ⟨q, hq⟩
  refine ⟨.non, _, d_write I (by rw [ha]; exact True.intro) hs he (dk_new ?_ hd (rel2.merge rel) dd'), rfl, q⟩
  exact Nat.le_trans (length_mergeK more kvs) hz
/-- o[i] = v of a dict -/
theorem set_dict {X : Cx} (hu : X.A.units + 1 < cLine) : PSet X (fun o i v H Q => ∃ a H', o = .ref a ∧ DPut H a i v H' ∧ Q H') := by
  intro pins s σ H o i v ov iv u Q I ro ri rv ⟨a, H', e, g, q⟩
  subst e
  cases ro
  exact d_setItem hu I g ri rv fun s' I' => ⟨H', I', q⟩
theorem PSet.or {X : Cx} {t t' : TSet} (h : PSet X t) (h' : PSet X t') : PSet X (fun o i v H Q => t o i v H Q ∨ t' o i v H Q) := by
  intro pins s σ H o i v ov iv u Q I ro ri rv q
  rcases q with q | q
  · exact h pins s σ H o i v ov iv u Q I ro ri rv q
  · exact h' pins s σ H o i v ov iv u Q I ro ri rv q
end L2
namespace Ly
open PySem PySem.Spec PyProof.Rows L2
theorem XcIs.mv {K : PySem.W.Frag} {L L' : Wd} {H H' : Hp} {x : Xc} {cls : Value} {d : Option Addr} (s : Mv L H L' H') (h : XcIs K L H x cls d) : XcIs K L' H' x cls d := by
  refine ⟨h.1, ?_⟩
  have h2 := h.2
  split at h2
  · exact h2
  · obtain ⟨dd, gs, e, q, n, r⟩ := h2
    exact ⟨dd, gs, e, (s.keep _ _ q n).1, (s.keep _ _ q n).2, r.mv s⟩
section
variable {α β γ δ : Type} {K : PySem.W.Frag} {E : XK} {L L0 : Wd} {H H0 : Hp} {Rl : Wd → Hp → α → β → Prop} {Rm : Wd → Hp → γ → δ → Prop}
/-- an evaluation while a thing at p is being built -/
theorem Fin.under {p : Addr} (hp : H p = none) (s0 : Step L H L0 H0) {r : Res α} {f : α → Mem → Res γ} {Q : δ → Hp → Prop} (h : Fin Rm K E L H (r.bind f) Q) :
    Fin Rl K E (L0.hide p) H0 r (fun b H1 => ∃ a M1 L1, Step L H L1 H1 ∧ H1 p = H0 p ∧ MemIs K (L1.hide p) H1 M1 ∧ Rl (L1.hide p) H1 a b ∧ Mv (L0.hide p) H0 (L1.hide p) H1 ∧ Fin Rm K E L H (f a M1) Q) := by
  cases r with
  | ok a M =>
    intro L' H' b s' m' q
    obtain ⟨L1, rfl, s1⟩ := s0.over hp s'
    exact ⟨a, M, L1, s1, s'.hid p List.mem_cons_self, m', q, s'.mv, h⟩
  | exc x M =>
    intro L' H' c d s' m' q
    obtain ⟨L1, rfl, s1⟩ := s0.over hp s'
    exact h L1 H' c d s1 m'.show (q.mv Mv.show)
  | bad => exact h
end
/-! ### cells that change -/
section
variable {K : PySem.W.Frag} {E : XK} {L : Wd} {H : Hp} {M : Mem} {d : D} {v : V}
theorem put_lst (m : MemIs K L H M) {n : Nat} {a : Addr} {ds : List D} {vs : List V} {Q : VK} (hn : L.l[n]? = some a) (r : IsL K L H ds vs) (rd : Is K L H d v) (h : Fin (Is K) K E L H (.ok d (M.set n (.lst ds))) Q) : Q v (upd H a (.lst vs)) := by
  have st := Step.put (o := .lst vs) m hn
  exact h L _ v st (m.put hn ⟨vs, upd_same, r.step st⟩) (rd.step st)
theorem put_dic (m : MemIs K L H M) {n : Nat} {a : Addr} {ds : List (Key × D)} {vs : List (Key × V)} {Q : VK} (hn : L.l[n]? = some a) (r : IsKV K L H ds vs) (rd : Is K L H d v) (h : Fin (Is K) K E L H (.ok d (M.set n (.dic ds))) Q) : Q v (upd H a (.dK vs)) := by
  have st := Step.put (o := .dK vs) m hn
  exact h L _ v st (m.put hn ⟨vs, upd_same, r.step st⟩) (rd.step st)
end
/-! ### methods of built-in types -/
abbrev MM := D → List D → Mem → Res D
def RSM (K : PySem.W.Frag) (r : V → List V → Hp → VK → Prop) (f : MM) : Prop := ∀ (E : XK) (L : Wd) (H : Hp) (M : Mem) (d : D) (x : V) (ds : List D) (xs : List V) (Q : VK), MemIs K L H M → Is K L H d x → IsL K L H ds xs → Fin (Is K) K E L H (f d ds M) Q → r x xs H Q
def TyS (K : PySem.W.Frag) (T : String) (ty : D → Mem → Bool) : Prop := ∀ (L : Wd) (H : Hp) (M : Mem) (d : D) (x : V), MemIs K L H M → Is K L H d x → ty d M = true → tyV K T x H
def isStr (d : D) (_ : Mem) : Bool := match d with
  | .str _ => true
  | _ => false
def isLst (d : D) (M : Mem) : Bool := (lstOf d M).isSome
def isDic (d : D) (M : Mem) : Bool := (dicOf d M).isSome
theorem ty_str {K : PySem.W.Frag} : TyS K "str" isStr := fun L H M d x m r h => by
  cases r <;> first | rfl | exact nomatch (h : false = true)
theorem ty_lst {K : PySem.W.Frag} : TyS K "list" isLst := fun L H M d x m r h => by
  obtain ⟨ds, q⟩ := Option.isSome_iff_exists.mp h
  obtain ⟨a, vs, rfl, q, _⟩ := lstOf_ok m r q
  exact .inl ⟨rfl, vs, q⟩
theorem ty_dic {K : PySem.W.Frag} : TyS K "dict" isDic := fun L H M d x m r h => by
  obtain ⟨ds, q⟩ := Option.isSome_iff_exists.mp h
  obtain ⟨a, vs, rfl, q, _⟩ := dicOf_ok m r q
  exact .inr (.inr (.inl ⟨rfl, .inl ⟨vs, q⟩⟩))
def mMeth (ty : D → Mem → Bool) (f : MM) (mo : ME) (mr : MA) : ME := fun env M => (mo env M).bind fun d M1 => if ty d M1 then (mr env M1).bind fun ds M2 => f d ds M2 else .bad
section
variable {G : Gd} {k : Nat} {E : XK} {N : List Str} {sc : Scope} {X : Cx} {a b e o : Expr} {es : List Expr} {ma mb mo mv mi : ME} {mr : MA} {pos p2 apos cpos : Pos} {T id : String} {name : Str} {r : V → List V → Hp → VK → Prop} {f : MM} {ty : D → Mem → Bool}
theorem ce_meth (pa : PlainAttrs T) (slot : Slot T name id) (hty : typeOf (.builtin id) = pure (.type "method_descriptor")) (hm : MtR X id r) (ht : TyS G.K T ty) (hr : RSM G.K r f) (c : Cq G k E N sc X) (ho : PE X o (tD G.K E mo)) (ha : PA X (e :: es) (tAD G.K E mr))
    (hbase : attributeBase o name X.env (eval o X.env) = eval o X.env := by rfl)
    (hfew : ((backTo cpos (starEach (e :: es) X.env)).all (fun x => !x.1) && (backToKw cpos (keywordEach [] X.env)).all (fun x => x.1.isSome)
      && decide ((e :: es).length + ([] : List Keyword).length + (if ([] : List Keyword).isEmpty then 0 else 1) < 30)) = true := by rfl)
    (hline : (apos.endLine == cpos.line) = true := by rfl) (hs : starEach (e :: es) X.env = (false, eval e X.env) :: starEach es X.env := by rfl) (hplain : (backTo cpos (starEach es X.env)).any (·.1) = false := by rfl) :
    PE X (.Call (.Attribute o name apos) (e :: es) [] cpos) (tD G.K E (mMeth ty f mo mr)) := by
  obtain rfl := c.g
  refine (pe_bm pa slot hty hm ho ha hbase hfew hline hs hplain).imp fun σ H Q ⟨env, L, M, he, hm, h⟩ => ?_
  refine ⟨env, L, M, he, hm, Fin.imp (Fin.bind h) fun x H1 ⟨d, M1, L1, s1, m1, r1, h1⟩ => ?_⟩
  split at h1
  · rename_i hy
    refine ⟨ht L1 H1 M1 d x m1 r1 hy, env, L1, M1, he.step s1, m1, Fin.imp (Fin.bind h1) fun xs H2 ⟨ds, M2, L2, s2, m2, r2, h2⟩ => ?_⟩
    exact hr E L2 H2 M2 d x ds xs Q m2 (r1.step s2) r2 h2
  · exact h1.elim
theorem ce_meth0 (pa : PlainAttrs T) (slot : Slot T name id) (hty : typeOf (.builtin id) = pure (.type "method_descriptor")) (hm : MtR X id r) (ht : TyS G.K T ty) (hr : RSM G.K r f) (c : Cq G k E N sc X) (ho : PE X o (tD G.K E mo))
    (hbase : attributeBase o name X.env (eval o X.env) = eval o X.env := by rfl) (hline : (apos.endLine == cpos.line) = true := by rfl) : PE X (.Call (.Attribute o name apos) [] [] cpos) (tD G.K E (mMeth ty f mo mNil)) := by
  obtain rfl := c.g
  refine (pe_bm0 pa slot hty hm ho hbase hline).imp fun σ H Q ⟨env, L, M, he, hm, h⟩ => ?_
  refine ⟨env, L, M, he, hm, Fin.imp (Fin.bind h) fun x H1 ⟨d, M1, L1, s1, m1, r1, h1⟩ => ?_⟩
  split at h1
  · rename_i hy
    exact ⟨ht L1 H1 M1 d x m1 r1 hy, hr E L1 H1 M1 d x [] [] Q m1 r1 .nil h1⟩
  · exact h1.elim
/-! .. of lists -/
def fAppend : MM := fun d ds M => match d, ds with
  | .ref n, [e] => (match M[n]? with
    | some (.lst xs) => if szOk (xs.length + 1) then .ok .non (M.set n (.lst (xs ++ [e]))) else .bad
    | _ => .bad)
  | _, _ => .bad
theorem rs_append {K : PySem.W.Frag} : RSM K rAppend fAppend := by
  intro E L H M d x ds xs Q m rd rl h
  unfold fAppend at h
  split at h
  · rename_i n e
    split at h
    · rename_i ys hy
      split at h
      · rename_i hz
        obtain ⟨a, rfl, hn⟩ := ref_inv rd
        obtain ⟨vs, q, r⟩ := m.cell n a _ hn hy
        cases rl with
        | cons r1 r2 =>
          cases r2
          exact ⟨a, vs, _, rfl, rfl, q, by rw [← r.length]; have := szOk.le hz; omega, put_lst m hn (r.append (.cons r1 .nil)) .non h⟩
      · exact h.elim
    · exact h.elim
  · exact h.elim
def fPop : MM := fun d ds M => match d, ds with
  | .ref n, [] => (match M[n]? with
    | some (.lst xs) => (match xs[xs.length - 1]? with
      | some y => .ok y (M.set n (.lst xs.dropLast))
      | none => .bad)
    | _ => .bad)
  | _, _ => .bad
theorem IsL.dropLast {K : PySem.W.Frag} {L : Wd} {H : Hp} {ds : List D} {vs : List V} (r : IsL K L H ds vs) : IsL K L H ds.dropLast vs.dropLast := by
  rw [List.dropLast_eq_take, List.dropLast_eq_take, r.length]
  exact r.take _
theorem rs_pop {K : PySem.W.Frag} : RSM K rPop fPop := by
  intro E L H M d x ds xs Q m rd rl h
  unfold fPop at h
  split at h
  · rename_i n
    split at h
    · rename_i ys hy
      split at h
      · rename_i y hz
        obtain ⟨a, rfl, hn⟩ := ref_inv rd
        obtain ⟨vs, q, r⟩ := m.cell n a _ hn hy
        cases rl
        obtain ⟨yv, e1, r1⟩ := r.get hz
        rw [r.length] at e1
        exact ⟨a, vs, yv, rfl, rfl, q, e1, put_lst m hn r.dropLast r1 h⟩
      · exact h.elim
    · exact h.elim
  · exact h.elim
theorem IsL.eraseIdx {K : PySem.W.Frag} {L : Wd} {H : Hp} : ∀ {ds : List D} {vs : List V} (i : Nat), IsL K L H ds vs → IsL K L H (ds.eraseIdx i) (vs.eraseIdx i)
  | _, _, _, .nil => .nil
  | _, _, 0, .cons _ t => t
  | _, _, i + 1, .cons q t => .cons q (IsL.eraseIdx i t)
def fPopAt : MM := fun d ds M => match d, ds with
  | .ref n, [.int i] => (match M[n]? with
    | some (.lst xs) => if 0 ≤ i ∧ i < xs.length ∧ szOk xs.length = true then (match xs[i.toNat]? with
      | some y => .ok y (M.set n (.lst (xs.eraseIdx i.toNat)))
      | none => .bad) else .bad
    | _ => .bad)
  | _, _ => .bad
theorem rs_popAt {K : PySem.W.Frag} : RSM K rPopAt fPopAt := by
  intro E L H M d x ds xs Q m rd rl h
  unfold fPopAt at h
  split at h
  · rename_i n i
    split at h
    · rename_i ys hy
      split at h
      · rename_i hi
        split at h
        · rename_i y hz
          obtain ⟨a, rfl, hn⟩ := ref_inv rd
          obtain ⟨vs, q, r⟩ := m.cell n a _ hn hy
          cases rl with
          | cons r1 r2 =>
            cases r2
            cases r1
            obtain ⟨yv, e1, r1⟩ := r.get hz
            have hl := of_decide_eq_true hi.2.2
            refine ⟨a, vs, i, i.toNat, yv, rfl, rfl, q, by omega, by omega, seqIndex_of hi.1 (by rw [← r.length]; exact hi.2.1), e1, put_lst m hn (r.eraseIdx _) r1 h⟩
        · exact h.elim
      · exact h.elim
    · exact h.elim
  · exact h.elim
/-! .. of texts -/
def strsOf : List D → Option (List Str)
  | [] => some []
  | .str x :: ds => (strsOf ds).map fun xs => x :: xs
  | _ => none
theorem strsOf_ok {K : PySem.W.Frag} {L : Wd} {H : Hp} : ∀ {ds : List D} {vs : List V} {xs : List Str}, IsL K L H ds vs → strsOf ds = some xs → vs = xs.map V.str
  | _, _, _, .nil, h => by cases h; rfl
  | _, _, _, .cons a b, h => by
    cases a <;> first | (cases (show (none : Option (List Str)) = some _ from h)) | skip
    obtain ⟨ys, e, rfl⟩ := Option.map_eq_some_iff.mp h
    rw [strsOf_ok b e]
    rfl
def fJoin : MM := fun d ds M => match d, ds with
  | .str a, [e] => (match (seqOf e M).bind strsOf with
    | some ys => if (ys.map (·.length)).sum + ys.length * a.length ≤ 100000 then .ok (.str (Txt.join a ys)) M else .bad
    | none => .bad)
  | _, _ => .bad
theorem rs_join {K : PySem.W.Frag} : RSM K (fun x xs H Q => ∃ a p, ∃ ys : List Str, x = .str a ∧ xs = [.ref p] ∧ (SqL K H p (ys.map V.str) ∨ SqT K H p (ys.map V.str)) ∧ (ys.map (·.length)).sum + ys.length * a.length ≤ 16777216 ∧ Q (.str (Txt.join a ys)) H) fJoin := by
  intro E L H M d x ds xs Q m rd rl h
  unfold fJoin at h
  split at h
  · rename_i a e
    split at h
    · rename_i ys hy
      split at h
      · rename_i hz
        obtain ⟨es, h1, h2⟩ := Option.bind_eq_some_iff.mp hy
        cases rl with
        | cons r1 r2 =>
          cases r2
          cases rd
          obtain ⟨p, vs, rfl, q, r⟩ := seqOf_ok m r1 h1
          have := strsOf_ok r h2
          subst this
          exact ⟨a, p, ys, rfl, rfl, q, by omega, h.end_ m (.str _)⟩
      · exact h.elim
    · exact h.elim
  · exact h.elim
/-! .. of dicts -/
def fUpdate : MM := fun d ds M => match d, ds with
  | .ref n, [e] => (match M[n]?, dicOf e M with
    | some (.dic kvs), some more => (match e with
      | .ref j => if n = j then .bad else if szOk (kvs.length + more.length) then .ok .non (M.set n (.dic (mergeD kvs more))) else .bad
      | _ => if szOk (kvs.length + more.length) then .ok .non (M.set n (.dic (mergeD kvs more))) else .bad)
    | _, _ => .bad)
  | _, _ => .bad
theorem rs_update {K : PySem.W.Frag} : RSM K rUpdate fUpdate := by
  intro E L H M d x ds xs Q m rd rl h
  unfold fUpdate at h
  split at h
  · rename_i n e
    split at h
    · rename_i kvs more h1 h2
      obtain ⟨a, rfl, hn⟩ := ref_inv rd
      obtain ⟨kws, q, r⟩ := m.cell n a _ hn h1
      cases rl with
      | cons r1 r2 =>
        cases r2
        obtain ⟨b, mws, rfl, q2, r2⟩ := dicOf_ok m r1 h2
        have go : a ≠ b → szOk (kvs.length + more.length) = true → Fin (Is K) K E L H (.ok .non (M.set n (.dic (mergeD kvs more)))) Q → rUpdate (.ref a) [.ref b] H Q := fun ne hz h =>
          ⟨a, b, kws, mws, rfl, rfl, ne, q, q2, by rw [← r.length, ← r2.length]; exact szOk.le hz, put_dic m hn (merge_ok r2 r) .non h⟩
        split at h
        · rename_i j
          split at h
          · exact h.elim
          · rename_i nj
            split at h
            · rename_i hz
              refine go (fun z => nj ?_) hz h
              obtain ⟨b', eb, hj⟩ := ref_inv r1
              cases eb
              subst z
              exact nodup_at m.nd hn hj
            · exact h.elim
        · rename_i nr
          split at h
          · rename_i hz
            refine go (fun z => ?_) hz h
            subst z
            cases r1 with
            | dic _ o _ => exact o.1 (List.mem_of_getElem? hn)
            | ref _ => exact nr _ rfl
            | _ => cases h2
          · exact h.elim
    · exact h.elim
  · exact h.elim
/-- d.get(k, x) -/
def opGet (d y z : D) (M : Mem) : Res D := match dicOf d M, keyOf y with
  | some kvs, some k => .ok ((valD kvs k).getD z) M
  | _, _ => .bad
def mGet (mo ma mb : ME) : ME := fun env M => (mo env M).bind fun d M1 => if isDic d M1 then (ma env M1).bind fun y M2 => (mb env M2).bind fun z M3 => opGet d y z M3 else .bad
theorem ce_get (c : Cq G k E N sc X) (ho : PE X o (tD G.K E mo)) (ha : PE X a (tD G.K E ma)) (hb : PE X b (tD G.K E mb)) (m2 : M2 X o "get" apos a b cpos) : PE X (.Call (.Attribute o "get" apos) [a, b] [] cpos) (tD G.K E (mGet mo ma mb)) := by
  refine (pe_dget2 (hu_of c.room) ho ha hb m2).imp fun σ H Q ⟨env, L, M, he, hm, h⟩ => ?_
  refine ⟨env, L, M, he, hm, Fin.imp (Fin.bind h) fun x H1 ⟨d, M1, L1, s1, m1, r1, h1⟩ => ?_⟩
  split at h1
  · rename_i hy
    obtain ⟨kvs, hk⟩ := Option.isSome_iff_exists.mp hy
    obtain ⟨ad, kws, rfl, q, r⟩ := dicOf_ok m1 r1 hk
    refine ⟨ad, rfl, .inl ⟨kws, .inl q⟩, env, L1, M1, he.step s1, m1, Fin.imp (Fin.bind h1) fun y H2 ⟨yd, M2, L2, s2, m2, r2, h2⟩ => ?_⟩
    refine ⟨env, L2, M2, (he.step s1).step s2, m2, Fin.imp (Fin.bind h2) fun z H3 ⟨zd, M3, L3, s3, m3, r3, h3⟩ => ?_⟩
    unfold opGet at h3
    split at h3
    · rename_i kvs3 k3 hd3 hk3
      obtain ⟨ad', kws3, e3, q3, r3'⟩ := dicOf_ok m3 ((r1.step s2).step s3) hd3
      cases e3
      obtain rfl := key_ok (r2.step s3) hk3
      refine ⟨valV kws3 k3, DGet.k q3, ?_⟩
      obtain ⟨z1, z2⟩ := val_ok k3 r3'
      cases hv : valD kvs3 k3 with
      | none =>
        rw [z2 hv]
        rw [hv] at h3
        exact h3.end_ m3 r3
      | some w =>
        obtain ⟨v', e1, r'⟩ := z1 w hv
        rw [e1]
        rw [hv] at h3
        exact h3.end_ m3 r'
    · exact h3.elim
  · exact h1.elim
/-! ### o[i] = v -/
def setM (M : Mem) (d i v : D) : Option Mem := match d with
  | .ref n => (match M[n]? with
    | some (.lst xs) => (match i with
      | .int j => (ixN xs.length j).map fun q => M.set n (.lst (xs.set q v))
      | _ => none)
    | some (.dic kvs) => (match keyOf i with
      | some k => if szOk (kvs.length + 1) then some (M.set n (.dic (putD kvs k v))) else none
      | none => none)
    | _ => none)
  | _ => none
def mSetItem (mv mo mi : ME) : MS := fun env M => (mv env M).bindS fun v M1 => (mo env M1).bindS fun d M2 => (mi env M2).bindS fun i M3 => match setM M3 d i v with
  | some M4 => .nx env M4
  | none => .bad
theorem cs_setItem {i : Expr} {pos' : Pos} (c : Cq G k E N sc X) (hv : PE X e (tD G.K E mv)) (ho : PE X o (tD G.K E mo)) (hi : PE X i (tD G.K E mi)) (hs : swapsWithSole [.Subscript o i pos'] e pos.line X.env = pure false := by rfl) (hw : swappedStores [.Subscript o i pos'] e X.env = pure none := by rfl)
    (h1 : (assignEach [.Subscript o i pos'] X.env).map (·.2) = [assign (.Subscript o i pos') X.env] := by rfl)
    (ha : ∀ v, assign (.Subscript o i pos') X.env v = (do
      let ov ← holding [v] (eval o X.env)
      let iv ← holding [v, ov] (eval i X.env)
      standAt pos'
      holding [v, ov, iv] (setItem ov iv v)
      release [v, ov, iv] []) := by intro _; rfl) : PS X (.Assign [.Subscript o i pos'] e pos) (sD G.K E (mSetItem mv mo mi)) := by
  refine (ps_asg hv (pg_sub ho hi (set_list.or (set_dict (hu_of c.room))) ha) hs hw h1).imp fun T σ H ⟨env, L, M, he, hm, h⟩ => ?_
  refine ⟨env, L, M, he, hm, Fin.imp (Fin.bindS h) fun x H1 ⟨v, M1, L1, s1, m1, r1, h1⟩ => ?_⟩
  refine ⟨env, L1, M1, he.step s1, m1, Fin.imp (Fin.bindS h1) fun y H2 ⟨d, M2, L2, s2, m2, r2, h2⟩ => ?_⟩
  refine ⟨env, L2, M2, (he.step s1).step s2, m2, Fin.imp (Fin.bindS h2) fun z H3 ⟨j, M3, L3, s3, m3, r3, h3⟩ => ?_⟩
  have rv := (r1.step s2).step s3
  have rd := r2.step s3
  have e3 := ((he.step s1).step s2).step s3
  cases q : setM M3 d j v with
  | none =>
    rw [q] at h3
    exact h3.elim
  | some M4 =>
    rw [q] at h3
    unfold setM at q
    split at q
    · rename_i n
      split at q
      · rename_i xs hx
        obtain ⟨ad, rfl, hn⟩ := ref_inv rd
        obtain ⟨vs, q1, rr⟩ := m3.cell _ ad _ hn hx
        split at q
        · rename_i jj
          obtain ⟨k', hk, rfl⟩ := Option.map_eq_some_iff.mp q
          cases r3
          have st := Step.put (o := .lst (vs.set k' x)) m3 hn
          exact .inl ⟨ad, vs, jj, k', rfl, rfl, q1, by rw [← rr.length]; exact hk, h3 L3 _ σ st (m3.put hn ⟨_, upd_same, (rr.set rv k').step st⟩) (e3.step st)⟩
        · cases q
      · rename_i kvs hx
        obtain ⟨ad, rfl, hn⟩ := ref_inv rd
        obtain ⟨kws, q1, rr⟩ := m3.cell _ ad _ hn hx
        split at q
        · rename_i k' hk
          split at q
          · rename_i hz
            cases q
            obtain rfl := key_ok r3 hk
            have st := Step.put (o := .dK (putK kws k' x)) m3 hn
            exact .inr ⟨ad, _, rfl, DPut.k q1 (by rw [← rr.length]; have := szOk.lt hz; omega), h3 L3 _ σ st (m3.put hn ⟨_, upd_same, (put_ok rv rr).step st⟩) (e3.step st)⟩
          · cases q
        · cases q
      · cases q
    · cases q
end
end Ly

namespace L2
open PySem PySem.Spec PyProof.Rows
/-! ### repr of data -/
mutual
theorem Dp.noDict {K : PySem.W.Frag} {H : Hp} : ∀ {v : V} {d : PyData}, Dp K H v d → d.hasDict = false
  | _, _, .non => rfl
  | _, _, .bl _ => rfl
  | _, _, .int _ => rfl
  | _, _, .str _ => rfl
  | _, _, .lst _ h => by unfold PyData.hasDict; exact DpAll.noDict h
  | _, _, .tup _ h => by unfold PyData.hasDict; exact DpAll.noDict h
theorem DpAll.noDict {K : PySem.W.Frag} {H : Hp} : ∀ {vs : List V} {ds : List PyData}, DpAll K H vs ds → PyData.hasDictAll ds = false
  | _, _, .nil => rfl
  | _, _, .cons a b => by unfold PyData.hasDictAll; rw [Dp.noDict a, DpAll.noDict b]; rfl
end
def rRepr (K : PySem.W.Frag) : List V → Hp → VK → Prop := fun xs H Q => ∃ x d, xs = [x] ∧ Dp K H x d ∧ d.showable = true ∧ d.depth ≤ 60 ∧ d.shown.length ≤ sizeLine ∧ Q (.str d.shown) H
theorem call_repr_data {X : Cx} (hg : X.A.guards = some []) (hu : X.A.units + 64 < cLine) : CallR X (.builtin "repr") (rRepr X.K) := by
  intro pins s σ H xs us Q I r h
  obtain ⟨x, d, rfl, dp, hs, hd, hz, q⟩ := h
  obtain ⟨u, rfl, ru⟩ := vals1 r
  have nd := dp.noDict
  obtain ⟨as, rd⟩ := Dp.reads I d x u dp ru
  cases dp with
  | non =>
    cases ru
    exact PySem.P.repr_of_none ⟨.str _, H, I.tok _, ⟨_, rfl⟩, q⟩
  | bl b =>
    cases ru
    exact PySem.P.repr_of_bool ⟨.str _, H, I.tok _, ⟨_, rfl⟩, q⟩
  | int i =>
    obtain ⟨t, rfl⟩ := ru
    exact PySem.P.repr_of_int (of_decide_eq_true hs) ⟨.str _, H, I.tok _, ⟨_, rfl⟩, q⟩
  | str z =>
    obtain ⟨t, rfl⟩ := ru
    exact PySem.P.repr_of_str ⟨.str _, H, I.tok _, ⟨_, rfl⟩, q⟩ hz
  | lst a b =>
    cases ru
    exact repr_of_reads' rd hs (PyData.noDict_hsm nd) hg (by omega) (fun _ _ e => e) (fun h' u tk hk => ⟨.str _, H, I.kept hk, ⟨_, rfl⟩, q⟩) hz
  | tup a b =>
    cases ru
    exact repr_of_reads' rd hs (PyData.noDict_hsm nd) hg (by omega) (fun _ _ e => e) (fun h' u tk hk => ⟨.str _, H, I.kept hk, ⟨_, rfl⟩, q⟩) hz
/-! ### a list, a tuple, a text walked -/
def iAny (K : PySem.W.Frag) (tl : TE) : TI := fun σ H R => tl σ H fun x H1 => (∃ a, x = .ref a ∧ (∃ xs, SqL K H1 a xs) ∧ R (Itl K a) H1) ∨ (∃ a, x = .ref a ∧ (∃ xs, SqT K H1 a xs) ∧ R (Itt K a) H1) ∨ (∃ z, x = .str z ∧ R (Its z) H1)
theorem pi_any {X : Cx} {tg l : Expr} {tl : TE} (hl : PE X l tl) : PI X tg l (iAny X.K tl) := by
  refine ⟨fun pins s σ H R I h => thn (hl.run pins s σ H _ I h) fun v s1 ⟨x, H1, I1, r1, q1⟩ => ?_⟩
  rcases q1 with ⟨a, rfl, ⟨xs, hq⟩, q⟩ | ⟨a, rfl, ⟨xs, hq⟩, q⟩ | ⟨z, rfl, q⟩
  · cases r1
    obtain ⟨its, _, pl, _⟩ := I1.list hq
    exact wpAny_pyIter_list pl.isList (pi_one (tk := s1.toks) I1 _ (turn_list a _) ⟨_, Heap.get?_push_size _ rfl, rfl, rfl⟩ q)
  · cases r1
    obtain ⟨its, _, pl, _⟩ := I1.tuple hq
    exact wpAny_pyIter_tuple pl (pi_one (tk := s1.toks) I1 _ (turn_tuple a _) ⟨_, Heap.get?_push_size _ rfl, rfl, rfl⟩ q)
  · obtain ⟨t, rfl⟩ := r1
    cases hz : z.cps.all (· < 128) with
    | false => exact wpAny_pyIter_wide hz (pi_one (tk := s1.toks) I1 _ (turn_str _ z t "str_iterator" (.inr rfl)) ⟨_, Heap.get?_push_size _ rfl, rfl, rfl⟩ q)
    | true => exact wpAny_pyIter_ascii hz (pi_one (tk := s1.toks) I1 _ (turn_str _ z t "str_ascii_iterator" (.inl rfl)) ⟨_, Heap.get?_push_size _ rfl, rfl, rfl⟩ q)
/-! ### enumerate of a tuple -/
theorem enum_new1 {prog : Program} {w : World} {A : Around} {E : Value → Shared → Prop} {s : Shared} {t : Addr} {items : Array Value} {Q : Value → Shared → Prop} (ht : s.heap.IsTuple t items)
    (h : ∀ h', IsEnum h' (s.heap.objs.size + 1) s.heap.objs.size 0 .none → h'.IsTupleIter s.heap.objs.size t 0 → (∀ b o, s.heap.get? b = some o → h'.get? b = some o) → Q (.ref (s.heap.objs.size + 1)) { s with heap := h' }) :
    wpAny (model prog w) A (call (.type "enumerate") [.ref t]) Q E s := by
  have new : Meets (Builtin.«enumerate.__new__» ⟨[.type "enumerate", .ref t], []⟩) (fun _ R s => s.heap.IsTuple t items ∧
      R (.ok (.ret (.ref (s.heap.push { cls := .type "tuple_iterator", data := .fields #[.ref t, .int 0 0] }).objs.size)))
        { s with heap := (s.heap.push { cls := .type "tuple_iterator", data := .fields #[.ref t, .int 0 0] }).push { cls := .type "enumerate", data := .fields #[.none, .bool false, .ref s.heap.objs.size, rawInt 0, .none, .none] } }) :=
    .of_wp fun prog w A R s ⟨h1, h⟩ => by
      obtain ⟨hp, g, d, tk, os⟩ := s
      have sub := sub_enumerate
      have it : ∀ {A' : Around} {E : Value → Shared → Prop} {Q : Value → Shared → Prop}, Q (.ref hp.objs.size) ⟨hp.push { cls := .type "tuple_iterator", data := .fields #[.ref t, .int 0 0] }, g, d, tk, os⟩ → wpAny (model prog w) A' (pyIter (.ref t)) Q E ⟨hp, g, d, tk, os⟩ :=
        fun q => (begins_tuple t items).iter prog w _ _ ⟨hp, g, d, tk, os⟩ _ h1 q
      wp_walk using it
      refine wpAny_stack_any fun st => wpAny_pure ?_
      split
      · rename_i c _ _ _ _ _
        cases (c == Value.type "enumerate") <;> (wp_walk using it; exact ⟨_, rfl, h⟩)
      · wp_walk using it
        exact ⟨_, rfl, h⟩
  refine callType_new F.called_enumerate (by decide) (F.typeCall_enumerate_1 _) (F.newCall_enumerate_1 _) (fun obj => F.args_object_init_2 obj _) F.entry_enumerate_new new ⟨ht, ?_⟩
  have size : (s.heap.push { cls := .type "tuple_iterator", data := .fields #[.ref t, .int 0 0] }).objs.size = s.heap.objs.size + 1 := Heap.size_push ..
  have en : IsEnum ((s.heap.push { cls := .type "tuple_iterator", data := .fields #[.ref t, .int 0 0] }).push { cls := .type "enumerate", data := .fields #[.none, .bool false, .ref s.heap.objs.size, rawInt 0, .none, .none] }) (s.heap.objs.size + 1) s.heap.objs.size 0 .none := by
    rw [← size]
    exact Heap.get?_push_size _ rfl
  show _ ∧ _
  rw [size]
  exact ⟨⟨_, en, rfl⟩, h _ en ⟨_, Heap.get?_push_of_some _ (Heap.get?_push_size _ rfl), rfl, rfl⟩ fun b o x => Heap.get?_push_of_some _ (Heap.get?_push_of_some _ x)⟩
/-- the tuple at a, numbered -/
def ItET (K : PySem.W.Frag) (a : Addr) : It :=
  ⟨fun i H => ∃ (xs : List V) (x : V), SqT K H a xs ∧ xs[i]? = some x, fun i H v H' => ∃ T x, v = .ref T ∧ H T = none ∧ H' = upd H T (.tup [.int (i : Nat), x]) ∧ ∀ xs, SqT K H a xs → xs[i]? = some x, fun i H => ∃ xs : List V, SqT K H a xs ∧ xs.length = i⟩
theorem turn_enumT {P : Program} {w : World} {K : PySem.W.Frag} {elts : List Expr} {kk : Nat} {tpos : Pos} (a e it : Addr) :
    Turn P w K (.Tuple elts kk tpos) (ItET K a) [e, it] e (fun i h => (∃ old, IsEnum h e it ((i : Nat) : Int) old) ∧ h.IsTupleIter it a i) where
  mem := List.mem_cons_self
  obj := fun i h st b hb => by
    obtain ⟨⟨old, he⟩, o, ho, _, hd⟩ := st
    rcases List.mem_cons.mp hb with rfl | hb
    · exact ⟨_, he, fun v z => by cases (show Data.fields _ = Data.cell v from z)⟩
    · rw [List.mem_singleton.mp hb]
      exact ⟨o, ho, fun v z => by rw [hd] at z; cases z⟩
  keep := fun i h h' st k => ⟨let ⟨old, he⟩ := st.1; ⟨old, k e (by simp) _ he⟩, st.2.at fun o q => k it (by simp) o q⟩
  item := by
    intro X hP hw hK hc i pins s σ H E I hf st hg
    subst hP hw hK
    obtain ⟨⟨old, he⟩, hit⟩ := st
    obtain ⟨xs, x, hq, hx⟩ := hg
    obtain ⟨its, rv, pl, _⟩ := I.tuple hq
    obtain ⟨u, hu, ru⟩ := rv.get hx
    have hit' := hit
    obtain ⟨oi, hoi, hci, _⟩ := hit'
    have pl' := pl
    obtain ⟨oa, hoa, hca, _⟩ := pl'
    have nai : a ≠ it := fun z => by
      rw [z, hoi] at hoa
      cases hoa
      rw [hci] at hca
      exact absurd hca (by decide)
    have nei : e ≠ it := fun z => by
      rw [← z, he] at hoi
      cases hoi
      exact absurd (show Value.type "enumerate" = Value.type "tuple_iterator" from hci) (by decide)
    have nea : e ≠ a := fun z => by
      rw [← z, he] at hoa
      cases hoa
      exact absurd (show Value.type "enumerate" = Value.type "tuple" from hca) (by decide)
    have hei : e < s.heap.objs.size := Heap.lt_size he
    have hil : it < s.heap.objs.size := Heap.lt_size hoi
    refine wpAny_pyNext_enum_itemD (Draws.tuple (A := X.A.in1) (I.ok.hd hc) it a nai its.toArray) he ⟨hit, pl⟩ (by
      have := (List.getElem?_eq_some_iff.mp hu).1
      simpa using this) nei (by simp [nei, nea]) fun y h' tk hy ho st' hT _ hk => ?_
    have ey : y = u := by
      have : its[i]? = some y := by simpa using hy
      rw [hu] at this
      exact (Option.some.inj this).symm
    subst ey
    refine ⟨_, rfl, wpAny_letOwnedTupleGo_enum (s := { s with heap := h', toks := tk + 1 }) ho fun h'' he' sb => ?_⟩
    have hT2 : h''.get? s.heap.objs.size = some { cls := .type "tuple", data := .seq #[.int i tk, y] } := (sb.2 _ (Nat.ne_of_gt hei)).trans hT
    have new : ObjOk X.prog X.w (upd H s.heap.objs.size (.tup [.int (i : Nat), x])) h'' s.heap.objs.size (.tup [.int (i : Nat), x]) :=
      ⟨by show 2 ≤ sizeLine; decide, [.int i tk, y], .cons ⟨_, rfl⟩ (.cons ru .nil), ⟨_, hT2, rfl, _, rfl⟩⟩
    have I1 : Inv X pins σ (upd H s.heap.objs.size (.tup [.int (i : Nat), x])) { s with heap := h'', toks := tk + 1 } :=
      I.turnedNew (ch := [e, it]) (fun b ob hb q => (sb.2 b (fun z => hb (by simp [z]))).trans (hk b ob (fun z => hb (by simp [z])) (fun z => hb (by simp [z])) q)) hf (Nat.le_refl _) new
    refine ⟨.ref s.heap.objs.size, _, I1, rfl, ⟨_, x, rfl, I.hok.fresh (Nat.le_refl _), rfl, fun ys hy => by rw [I.tuple_inj hy hq]; exact hx⟩, ⟨⟨y, ?_⟩, st'.1.at fun o q => (sb.2 it (Ne.symm nei)).trans q⟩, fun b hb => ?_⟩
    · rw [show ((i + 1 : Nat) : Int) = (i : Int) + 1 by omega]
      exact he'
    · rw [upd_ne (Nat.ne_of_lt ((List.mem_cons.mp hb).elim (fun z => z ▸ hei) fun z => (List.mem_singleton.mp z) ▸ hil))]
      exact (hf b hb).1
  done := by
    intro X hP hw hK hc i pins s σ H E I hf st hg
    subst hP hw hK
    obtain ⟨⟨old, he⟩, hit⟩ := st
    obtain ⟨xs, hq, rfl⟩ := hg
    obtain ⟨its, rv, pl, _⟩ := I.tuple hq
    obtain ⟨f0, f1, f2, f3, f4, f5⟩ := hf it (by simp)
    have hit' := hit
    obtain ⟨oi, hoi, hci, _⟩ := hit'
    have pl' := pl
    obtain ⟨oa, hoa, hca, _⟩ := pl'
    have nai : a ≠ it := fun z => by
      rw [z, hoi] at hoa
      cases hoa
      rw [hci] at hca
      exact absurd hca (by decide)
    refine wpAny_pyNext_enum_endD (Draws.tuple (A := X.A.in1) (I.ok.hd hc) it a nai its.toArray) he ?_ fun h' eb => ⟨rfl, I.turned (t' := s.toks) (fun b o hb q => eb b o hb q) f0 f1 f3 f4 f5⟩
    have : its.toArray.size = xs.length := by rw [List.size_toArray, rv.length]
    rw [this]
    exact ⟨hit, pl⟩
  self := fun A i s Q E st h => let ⟨⟨_, he⟩, _⟩ := st; wpAny_pyIter_enum he h
def iEnumA (K : PySem.W.Frag) (ta : TA) : TI := fun σ H R => ta σ H fun vs H1 => (∃ a xs, vs = [.ref a] ∧ SqL K H1 a xs ∧ R (Ite K a) H1) ∨ ∃ a xs, vs = [.ref a] ∧ SqT K H1 a xs ∧ R (ItET K a) H1
theorem pi_enumA {X : Cx} {e : Expr} {ta : TA} {p pos tpos : Pos} {elts : List Expr} {kk : Nat} (hg : Gl X "enumerate") (hm : X.mg "enumerate" = none) (ha : PA X [e] ta) (hs : starEach [e] X.env = [(false, eval e X.env)] := by rfl) :
    PI X (.Tuple elts kk tpos) (.Call (.Name "enumerate" p) [e] [] pos) (iEnumA X.K ta) := by
  refine ⟨fun pins s σ H R I h => Call_ (ld_blt I hg hm boot_enumerate (PyProof.Rows.callWith_type1 (thn (ha.run pos pins s σ H _ I h) fun us s1 ⟨vs, H1, I1, r1, q1⟩ => ?_) hs rfl))⟩
  have two : ∀ b ∈ [s1.heap.objs.size + 1, s1.heap.objs.size], FpOk X pins H1 b := fun b hb => by
    have le : s1.heap.objs.size ≤ b := by
      rcases List.mem_cons.mp hb with z | z
      · omega
      · have := List.mem_singleton.mp z
        omega
    exact I1.fpOk le (I1.hok.fresh le)
  rcases q1 with ⟨a, xs, rfl, hq, q⟩ | ⟨a, xs, rfl, hq, q⟩
  · obtain ⟨u, rfl, ru⟩ := vals1 r1
    cases ru
    obtain ⟨its, _, pl, _⟩ := I1.list hq
    refine call_enumerate_list pl.isList fun h' he hit hsz hk => wpAny_pyIter_enum he ?_
    exact ⟨_, [s1.heap.objs.size + 1, s1.heap.objs.size], _, _, H1, rfl, I1.kept (t' := s1.toks) hk, turn_enum a (s1.heap.objs.size + 1) s1.heap.objs.size, ⟨⟨.none, he⟩, hit, Nat.succ_ne_self _⟩, two, q⟩
  · obtain ⟨u, rfl, ru⟩ := vals1 r1
    cases ru
    obtain ⟨its, _, pl, _⟩ := I1.tuple hq
    refine enum_new1 pl fun h' he hit hk => wpAny_pyIter_enum he ?_
    exact ⟨_, [s1.heap.objs.size + 1, s1.heap.objs.size], _, _, H1, rfl, I1.kept (t' := s1.toks) hk, turn_enumT a (s1.heap.objs.size + 1) s1.heap.objs.size, ⟨⟨.none, he⟩, hit⟩, two, q⟩
/-! ### a, b, *c = a tuple -/
theorem pgs_star {X : Cx} {t : Expr} {es : List Expr} {g : TG} {u : TGs} {sp : Pos} (h1 : PG X t g) (h2 : PGs X es u) : PGs X (.Starred t sp :: es) (gCons g u) := by
  refine ⟨fun pins s σ H vs us Q I r h => ?_⟩
  obtain ⟨v, vr, rfl, h⟩ := h
  cases r with
  | cons r rr => exact assignInOrder_cons (thn (h1.run pins s σ H _ _ _ I r h) fun _ s1 ⟨σ1, H1, I1, q1⟩ => h2.run pins s1 σ1 H1 _ _ Q I1 rr q1)
def gStar (K : PySem.W.Frag) (n i : Nat) (t : TGs) : TG := fun v σ H Q => ∃ a xs, v = .ref a ∧ SqT K H a xs ∧ n ≤ xs.length + 1 ∧ xs.length ≤ 16384 ∧
  ∀ p, H p = none → t (xs.take i ++ [.ref p] ++ (xs.drop i).drop (xs.length + 1 - n)) σ (upd H p (.lst ((xs.drop i).take (xs.length + 1 - n)))) Q
theorem ObjOk.there {P : Program} {w : World} {H : Hp} {h : Heap} {a : Addr} {o : HO} (x : ObjOk P w H h a o) : ∃ ob, h.get? a = some ob := by
  cases o with
  | lst xs => exact let ⟨_, _, _, _, e⟩ := x; ⟨_, e⟩
  | tup xs => exact let ⟨_, _, _, _, e, _⟩ := x; ⟨_, e⟩
  | dK kvs => exact let ⟨_, _, _, _, o, _, _, e, _⟩ := x; ⟨o, e⟩
  | dT kvs => exact let ⟨_, _, _, _, o, _, _, e, _⟩ := x; ⟨o, e⟩
  | set S n => exact let ⟨o, _, _, _, e, _⟩ := x; ⟨o, e⟩
  | ins C dx fs => exact let ⟨_, _, _, e, _⟩ := x; ⟨_, e⟩
  | own y => exact x
  | xd fs => exact let ⟨_, ⟨o, _, _, e, _⟩, _⟩ := x; ⟨o, e⟩
  | rng lo hi => exact let ⟨_, _, _, e⟩ := x; ⟨_, e⟩
  | frz ob u => exact let ⟨e, _⟩ := x; ⟨_, e⟩
  | tbl ps => exact ⟨_, x⟩
  | met f y => exact ⟨_, x⟩
  | ext φ => exact let ⟨_, e, _⟩ := x; e
theorem ns_same {h : Heap} {a : Addr} {m m' : Str → Option Value} (x : h.Ns a m) (y : h.Ns a m') : m = m' := by
  obtain ⟨o, es, ep, e1, d1, _, f1⟩ := x
  obtain ⟨o', es', ep', e2, d2, _, f2⟩ := y
  rw [e1] at e2
  cases e2
  rw [d1] at d2
  cases d2
  exact funext fun n => (f1 n).symm.trans (f2 n)
theorem pg_star {X : Cx} {es : List Expr} {k n i : Nat} {t : TGs} {pos : Pos} (hc : X.calm = true) (h : PGs X es t) (hn : (assignEach es X.env).length = n) (hi : i < n) (hst : (assignEach es X.env).findIdx? (·.1) = some i) : PG X (.Tuple es k pos) (gStar X.K n i t) := by
  refine ⟨fun pins s σ H v u Q I r hw => ?_⟩
  obtain ⟨a, xs, rfl, hq, hl, hz, hw⟩ := hw
  cases r
  obtain ⟨its, rv, pl, _⟩ := I.tuple hq
  obtain ⟨m, F⟩ := I.fr
  have len : its.toArray.size = xs.length := by rw [List.size_toArray, rv.length]
  refine PySem.W.kun_assignT F (news_all (h := s.heap)) pl (I.ok.hd hc) hn hst hi (by omega) (by omega) rfl rfl rfl fun D h' tk F' N' low => ?_
  have keep : ∀ b o, b ≠ X.env.locals → s.heap.get? b = some o → h'.get? b = some o := fun b o ne q => by
    cases z : X.base.get? b with
    | some o' =>
      have := I.bk b o' z
      rw [q] at this
      cases this
      exact F'.keep b _ z
    | none => exact (N' (b, o) (List.mem_cons_of_mem _ (mem_allNews ne z q))).1
  have new : h'.get? D = some (PySem.W.listOf ((its.toArray.toList.drop i).take (its.toArray.size + 1 - n)).toArray 0) := (N' (D, _) List.mem_cons_self).1
  have nL : D ≠ X.env.locals := (N' (D, _) List.mem_cons_self).2.1
  have fresh : s.heap.get? D = none := by
    cases z : s.heap.get? D with
    | none => rfl
    | some o =>
      cases z2 : X.base.get? D with
      | some o2 =>
        have := (N' (D, _) List.mem_cons_self).2.2
        rw [z2] at this
        cases this
      | none => exact absurd (low (D, o) (mem_allNews nL z2 z)) (Nat.lt_irrefl _)
  have hD : H D = none := by
    cases z : H D with
    | none => rfl
    | some o =>
      obtain ⟨ob, q⟩ := (I.hok D o z).there
      rw [fresh] at q
      cases q
  have nel : ∀ c u, H c = some u → c ≠ X.env.locals := fun c u q z => by
    rw [z, I.free] at q
    cases q
  have I2 : Inv X pins σ (upd H D (.lst ((xs.drop i).take (xs.length + 1 - n)))) { s with heap := h', toks := tk } := by
    refine I.step (g' := s.gens) (d' := s.drawn) (t' := tk) (ch := []) (fun _ z => nomatch z) (fun b o ne _ _ q _ => keep b o ne q) (fun b o ne _ _ q _ => ⟨o.slots, keep b o ne q⟩) (fun b o _ q z => ?_) (fun b o _ q => ?_) (fun b ys q => ?_) (fun b o ys q => ?_) (fun b ps q => ⟨#[], ?_⟩) (fun m' hm => ?_) (fun b u q => ?_) I.bare
    · rw [upd_ne (fun (z2 : b = D) => by rw [z2, fresh] at q; cases q)]
      exact z
    · by_cases z : b = X.env.locals
      · obtain ⟨ol, _, _, e, _⟩ := F'.ns
        exact ⟨ol, by rw [z]; exact e⟩
      · exact ⟨o, keep b o z q⟩
    · rw [upd_ne (ne_of_none q hD)]
      exact q
    · rw [upd_ne (ne_of_none q hD)]
      exact q
    · rw [upd_ne (ne_of_none q hD), q]
      simp
    · rw [ns_same hm F.ns]
      exact F'.ns
    · by_cases z : b = D
      · subst z
        rw [upd_same] at q
        cases q
        refine ⟨?_, (its.drop i).take (xs.length + 1 - n), 0, (rv.drop i).take _, ?_⟩
        · rw [List.length_take, List.length_drop, sizeLine_eq]
          omega
        · rw [new]
          simp only [PySem.W.listOf, len]
      · rw [upd_ne z] at q
        refine (I.hok b u q).stay (fun c v hc e => keep c v ?_ e) (fun c e => by rw [upd_ne (ne_of_none e hD)]; exact e) fun c ys e => by rw [upd_ne (ne_of_none e hD)]; exact e
        rcases hc with rfl | hc
        · exact nel _ _ q
        · exact nel _ _ hc
  refine h.run pins _ σ _ _ _ Q I2 ?_ (hw D hD)
  have r1 : Vals (xs.take i) (its.take i) := rv.take i
  have r2 : Vals ((xs.drop i).drop (xs.length + 1 - n)) ((its.drop i).drop (xs.length + 1 - n)) := (rv.drop i).drop _
  have e1 : its.toArray.toList = its := by simp
  rw [e1, len]
  have r3 : Vals [V.ref D] [Value.ref D] := .cons (show Value.ref D = Value.ref D from rfl) .nil
  exact (r1.append r3).append r2
end L2

namespace Ly
open PySem PySem.Spec PyProof.Rows L2
def GlS (sc : Scope) (x : Str) : Prop := sc.names.lookup x = some NameKind.globalImplicit
theorem Cq.gl {G : Gd} {k : Nat} {E : XK} {N : List Str} {sc : Scope} {X : Cx} {x : Str} (c : Cq G k E N sc X) (h : GlS sc x) : Gl X x := by
  show X.env.scope.names.lookup x = _
  rw [c.scq]
  exact h
/-! ### what is walked, over data -/
section
variable {K : PySem.W.Frag} {L : Wd} {H : Hp} {a : Addr} {ds : List D} {chk : Mem → Prop}
theorem it_list (h : ∀ L' H' M', Mv L H L' H' → MemIs K L' H' M' → chk M' → ∃ vs, SqL K H' a vs ∧ IsL K L' H' ds vs) : ItIs K L H ⟨ds, chk⟩ (Itl K a) := fun L' H' M' mv m c i => by
  obtain ⟨vs, q, r⟩ := h L' H' M' mv m c
  refine ⟨fun d e => ?_, fun hl => ⟨vs, q, by rw [← r.length]; exact Nat.le_of_eq hl⟩⟩
  obtain ⟨v, e1, r1⟩ := r.get e
  refine ⟨⟨vs, v, q, e1⟩, fun x H'' y => ?_⟩
  obtain ⟨rfl, y⟩ := y
  have := y vs q
  rw [e1] at this
  cases this
  exact ⟨Step.refl, m, r1⟩
theorem it_tup (h : ∀ L' H' M', Mv L H L' H' → MemIs K L' H' M' → chk M' → ∃ vs, SqT K H' a vs ∧ IsL K L' H' ds vs) : ItIs K L H ⟨ds, chk⟩ (Itt K a) := fun L' H' M' mv m c i => by
  obtain ⟨vs, q, r⟩ := h L' H' M' mv m c
  refine ⟨fun d e => ?_, fun hl => ⟨vs, q, by rw [← r.length]; exact Nat.le_of_eq hl⟩⟩
  obtain ⟨v, e1, r1⟩ := r.get e
  refine ⟨⟨vs, v, q, e1⟩, fun x H'' y => ?_⟩
  obtain ⟨rfl, y⟩ := y
  have := y vs q
  rw [e1] at this
  cases this
  exact ⟨Step.refl, m, r1⟩
def numbered (ds : List D) : List D := ds.zipIdx.map fun p => .tup [.int (p.2 : Nat), p.1]
theorem numbered_at {ds : List D} {i : Nat} {d : D} (h : (numbered ds)[i]? = some d) : ∃ e, ds[i]? = some e ∧ d = .tup [.int (i : Nat), e] := by
  unfold numbered at h
  rw [List.getElem?_map] at h
  obtain ⟨p, hp, rfl⟩ := Option.map_eq_some_iff.mp h
  rw [List.getElem?_zipIdx] at hp
  obtain ⟨e, he, rfl⟩ := Option.map_eq_some_iff.mp hp
  exact ⟨e, he, by simp⟩
theorem numbered_len (ds : List D) : (numbered ds).length = ds.length := by simp [numbered]
theorem it_enum (h : ∀ L' H' M', Mv L H L' H' → MemIs K L' H' M' → chk M' → ∃ vs, SqL K H' a vs ∧ IsL K L' H' ds vs) : ItIs K L H ⟨numbered ds, chk⟩ (Ite K a) := fun L' H' M' mv m c i => by
  obtain ⟨vs, q, r⟩ := h L' H' M' mv m c
  refine ⟨fun d e => ?_, fun hl => ⟨vs, q, by rw [← r.length, ← numbered_len]; exact Nat.le_of_eq hl⟩⟩
  obtain ⟨d', e0, rfl⟩ := numbered_at e
  obtain ⟨v, e1, r1⟩ := r.get e0
  refine ⟨⟨vs, v, q, e1⟩, fun x H'' y => ?_⟩
  obtain ⟨T, w, rfl, hT, rfl, y⟩ := y
  have := y vs q
  rw [e1] at this
  cases this
  have st := Step.new (o := .tup [.int (i : Nat), v]) m hT
  exact ⟨st.1, m.new hT, .tup (.inl upd_same) st.2 (.cons (.int _) (.cons (r1.step st.1) .nil))⟩
theorem it_enumT (h : ∀ L' H' M', Mv L H L' H' → MemIs K L' H' M' → chk M' → ∃ vs, SqT K H' a vs ∧ IsL K L' H' ds vs) : ItIs K L H ⟨numbered ds, chk⟩ (ItET K a) := fun L' H' M' mv m c i => by
  obtain ⟨vs, q, r⟩ := h L' H' M' mv m c
  refine ⟨fun d e => ?_, fun hl => ?_⟩
  · obtain ⟨d', e0, rfl⟩ := numbered_at e
    obtain ⟨v, e1, r1⟩ := r.get e0
    refine ⟨⟨vs, v, q, e1⟩, fun x H'' y => ?_⟩
    obtain ⟨T, w, rfl, hT, rfl, y⟩ := y
    have := y vs q
    rw [e1] at this
    cases this
    have st := Step.new (o := .tup [.int (i : Nat), v]) m hT
    exact ⟨st.1, m.new hT, .tup (.inl upd_same) st.2 (.cons (.int _) (.cons (r1.step st.1) .nil))⟩
  · rw [← hl]
    exact ⟨vs, q, by rw [← r.length]; exact (numbered_len ds).symm⟩
/-- what a walk over d goes through, and when it may go on -/
def itemsOf (d : D) (M : Mem) : Option Itm := match d with
  | .str z => some ⟨z.cps.toList.map fun c => .str ⟨#[c]⟩, fun _ => True⟩
  | .tup ds => some ⟨ds, fun _ => True⟩
  | .lst ds => some ⟨ds, fun _ => True⟩
  | .scr ds => some ⟨ds, fun _ => True⟩
  | .ref n => (match M[n]? with
    | some (.lst ds) => some ⟨ds, fun M' => M'[n]? = some (.lst ds)⟩
    | _ => none)
  | _ => none
end
section
variable {K : PySem.W.Frag} {L : Wd} {H : Hp} {M : Mem} {d : D} {v : V} {t : Itm}
/-- how a sequence that is walked stands -/
inductive Sq3 (K : PySem.W.Frag) (L : Wd) (H : Hp) (t : Itm) : V → Prop
  | lst {a : Addr} : (∃ xs, SqL K H a xs) → (∀ L' H' M', Mv L H L' H' → MemIs K L' H' M' → t.chk M' → ∃ vs, SqL K H' a vs ∧ IsL K L' H' t.items vs) → Sq3 K L H t (.ref a)
  | tup {a : Addr} : (∃ xs, SqT K H a xs) → (∀ L' H' M', Mv L H L' H' → MemIs K L' H' M' → t.chk M' → ∃ vs, SqT K H' a vs ∧ IsL K L' H' t.items vs) → Sq3 K L H t (.ref a)
  | str {z : Str} : t.items = z.cps.toList.map (fun c => D.str ⟨#[c]⟩) → Sq3 K L H t (.str z)
theorem itemsOf_ok (m : MemIs K L H M) (r : Is K L H d v) (h : itemsOf d M = some t) : Sq3 K L H t v := by
  unfold itemsOf at h
  split at h
  · cases h
    cases r
    exact .str rfl
  · cases h
    obtain ⟨a, vs, rfl, q, r1⟩ := r.tup_inv
    refine .tup ⟨vs, q⟩ fun L' H' M' mv m' _ => ?_
    obtain ⟨a', ws, e, q', r'⟩ := (r.mv mv).tup_inv
    cases e
    exact ⟨ws, q', r'⟩
  · cases h
    obtain ⟨a, vs, rfl, q, _, r1⟩ := r.lst_inv
    refine .lst ⟨vs, .inl (.inl q)⟩ fun L' H' M' mv m' _ => ?_
    obtain ⟨a', ws, e, q', _, r'⟩ := (r.mv mv).lst_inv
    cases e
    exact ⟨ws, .inl (.inl q'), r'⟩
  · cases h
    obtain ⟨a, vs, rfl, q, r1⟩ := r.scr_inv
    refine .lst ⟨vs, q⟩ fun L' H' M' mv m' _ => ?_
    obtain ⟨a', ws, e, q', r'⟩ := (r.mv mv).scr_inv
    cases e
    exact ⟨ws, q', r'⟩
  · rename_i n
    split at h
    · rename_i ds q
      cases h
      obtain ⟨a, rfl, hn⟩ := ref_inv r
      obtain ⟨vs, q1, r1⟩ := m.cell n a _ hn q
      refine .lst ⟨vs, .inl (.inl q1)⟩ fun L' H' M' mv m' c => ?_
      obtain ⟨ws, q2, r2⟩ := m'.cell n a _ (mv.get n a hn) c
      exact ⟨ws, .inl (.inl q2), r2⟩
    · cases h
  · cases h
theorem it_str {z : Str} {chk : Mem → Prop} : ItIs K L H ⟨z.cps.toList.map (fun c => D.str ⟨#[c]⟩), chk⟩ (Its z) := fun L' H' M' mv m c i => by
  refine ⟨fun d e => ?_, fun hl => ?_⟩
  · rw [List.getElem?_map] at e
    obtain ⟨c, hc, rfl⟩ := Option.map_eq_some_iff.mp e
    have hc' : z.cps[i]? = some c := by simpa using hc
    refine ⟨(Array.getElem?_eq_some_iff.mp hc').1, fun x H'' y => ?_⟩
    obtain ⟨rfl, c2, h2, rfl⟩ := y
    rw [hc'] at h2
    cases h2
    exact ⟨Step.refl, m, .str _⟩
  · show z.cps.size ≤ i
    rw [← hl]
    simp
theorem it_range {lo : Int} {n : Nat} {chk : Mem → Prop} : ItIs K L H ⟨(List.range n).map fun i => .int (lo + (i : Nat)), chk⟩ (Itr lo n) := fun L' H' M' mv m c i => by
  refine ⟨fun d e => ?_, fun hl => ?_⟩
  · rw [List.getElem?_map] at e
    obtain ⟨k, hk, rfl⟩ := Option.map_eq_some_iff.mp e
    obtain ⟨h1, h2⟩ := List.getElem?_eq_some_iff.mp hk
    rw [List.getElem_range] at h2
    subst h2
    refine ⟨show i < n by simpa using h1, fun x H'' y => ?_⟩
    obtain ⟨rfl, rfl⟩ := y
    exact ⟨Step.refl, m, .int _⟩
  · show n ≤ i
    rw [← hl]
    simp
theorem it_rangeC {lo c : Int} {n : Nat} {chk : Mem → Prop} : ItIs K L H ⟨(List.range n).map fun i => .int (lo + (i : Nat) * c), chk⟩ (Itc lo c n) := fun L' H' M' mv m _ i => by
  refine ⟨fun d e => ?_, fun hl => ?_⟩
  · rw [List.getElem?_map] at e
    obtain ⟨k, hk, rfl⟩ := Option.map_eq_some_iff.mp e
    obtain ⟨h1, h2⟩ := List.getElem?_eq_some_iff.mp hk
    rw [List.getElem_range] at h2
    subst h2
    refine ⟨show i < n by simpa using h1, fun x H'' y => ?_⟩
    obtain ⟨rfl, rfl⟩ := y
    exact ⟨Step.refl, m, .int _⟩
  · show n ≤ i
    rw [← hl]
    simp
end
section
variable {G : Gd} {k : Nat} {E : XK} {N : List Str} {sc : Scope} {X : Cx} {a b e o tg : Expr} {es : List Expr} {ma mb mo : ME} {mr : MA} {pos p p2 tpos : Pos}
def mIter (ma : ME) : MI := fun env M => (ma env M).bind fun d M1 => match itemsOf d M1 with
  | some t => .ok t M1
  | none => .bad
theorem ci_any (c : Cq G k E N sc X) (ha : PE X a (tD G.K E ma)) : PI X tg a (tID G.K E (mIter ma)) := by
  obtain rfl := c.g
  refine (pi_any ha).imp fun σ H R ⟨env, L, M, he, hm, h⟩ => ?_
  refine ⟨env, L, M, he, hm, Fin.imp (Fin.bind h) fun x H1 ⟨d, M1, L1, s1, m1, r1, h1⟩ => ?_⟩
  cases q : itemsOf d M1 with
  | none =>
    rw [q] at h1
    exact h1.elim
  | some t =>
    rw [q] at h1
    cases itemsOf_ok m1 r1 q with
    | lst ex go => exact .inl ⟨_, rfl, ex, h1.end_ m1 (it_list go)⟩
    | tup ex go => exact .inr (.inl ⟨_, rfl, ex, h1.end_ m1 (it_tup go)⟩)
    | str es =>
      obtain ⟨its, chk⟩ := t
      cases es
      exact .inr (.inr ⟨_, rfl, h1.end_ m1 it_str⟩)
def enumOf (d : D) (M : Mem) : Option Itm := match d with
  | .str _ => none
  | d => (itemsOf d M).map fun t => ⟨numbered t.items, t.chk⟩
def mEnum (ma : ME) : MI := fun env M => (ma env M).bind fun d M1 => match enumOf d M1 with
  | some t => .ok t M1
  | none => .bad
theorem ci_enum {elts : List Expr} {kk : Nat} (c : Cq G k E N sc X) (hg : GlS sc "enumerate") (hm : G.mg "enumerate" = none) (ha : PE X a (tD G.K E ma)) (hs : starEach [a] X.env = [(false, eval a X.env)] := by rfl) :
    PI X (.Tuple elts kk tpos) (.Call (.Name "enumerate" p) [a] [] pos) (tID G.K E (mEnum ma)) := by
  obtain rfl := c.g
  refine (pi_enumA (c.gl hg) hm (ca_cons (G := gdOf X) (E := E) ha ca_nil hs) hs).imp fun σ H R ⟨env, L, M, he, hm, h⟩ => ?_
  refine ⟨env, L, M, he, hm, ?_⟩
  unfold mCons
  have h' : Fin (ItIs (gdOf X).K) (gdOf X).K E L H ((ma env M).bind fun d M1 => match enumOf d M1 with | some t => .ok t M1 | none => .bad) R := h
  cases q : ma env M with
  | bad =>
    rw [q] at h'
    exact h'
  | exc x M1 =>
    rw [q] at h'
    exact h'
  | ok d M1 =>
    rw [q] at h'
    intro L1 H1 vs s1 m1 rl
    cases rl with
    | cons r1 r2 =>
      cases r2
      have h1 := h'.step s1
      cases q2 : enumOf d M1 with
      | none =>
        rw [show ((Res.ok d M1).bind fun d M1 => match enumOf d M1 with | some t => Res.ok t M1 | none => Res.bad) = (match enumOf d M1 with | some t => Res.ok t M1 | none => Res.bad) from rfl, q2] at h1
        exact h1.elim
      | some t =>
        rw [show ((Res.ok d M1).bind fun d M1 => match enumOf d M1 with | some t => Res.ok t M1 | none => Res.bad) = (match enumOf d M1 with | some t => Res.ok t M1 | none => Res.bad) from rfl, q2] at h1
        unfold enumOf at q2
        split at q2
        · cases q2
        · rename_i ns
          obtain ⟨t0, h0, rfl⟩ := Option.map_eq_some_iff.mp q2
          cases itemsOf_ok m1 r1 h0 with
          | lst ex go => exact .inl (let ⟨xs, q⟩ := ex; ⟨_, xs, rfl, q, h1.end_ m1 (it_enum go)⟩)
          | tup ex go => exact .inr (let ⟨xs, q⟩ := ex; ⟨_, xs, rfl, q, h1.end_ m1 (it_enumT go)⟩)
          | str es =>
            cases r1
            exact (ns _ rfl).elim
/-! ranges -/
def rngOk (i : Int) : Prop := -(2 ^ 62) ≤ i ∧ i < 2 ^ 62
open Classical in
noncomputable def rng1 (ds : List D) (M : Mem) : Res Itm := match ds with
  | [.int j] => if rngOk j then .ok ⟨(List.range j.toNat).map fun i => .int (0 + (i : Nat)), fun _ => True⟩ M else .bad
  | _ => .bad
open Classical in
noncomputable def rng2 (ds : List D) (M : Mem) : Res Itm := match ds with
  | [.int i, .int j] => if rngOk i ∧ rngOk j then .ok ⟨(List.range (j - i).toNat).map fun n => .int (i + (n : Nat)), fun _ => True⟩ M else .bad
  | _ => .bad
/- downwards -/
open Classical in
noncomputable def rng3 (ds : List D) (M : Mem) : Res Itm := match ds with
  | [.int i, .int j, .int c] => if rngOk i ∧ rngOk j ∧ c = -1 then .ok ⟨(List.range (i - j).toNat).map fun n => .int (i + (n : Nat) * -1), fun _ => True⟩ M else .bad
  | _ => .bad
def mRng (f : List D → Mem → Res Itm) (mr : MA) : MI := fun env M => (mr env M).bind fun ds M1 => f ds M1
theorem ci_range1 (c : Cq G k E N sc X) (hg : GlS sc "range") (hm : G.mg "range" = none) (ha : PA X [a] (tAD G.K E mr)) (hs : starEach [a] X.env = [(false, eval a X.env)] := by rfl) :
    PI X tg (.Call (.Name "range" p) [a] [] pos) (tID G.K E (mRng rng1 mr)) := by
  obtain rfl := c.g
  refine (pi_range1 (c.gl hg) hm ha hs).imp fun σ H R ⟨env, L, M, he, hm, h⟩ => ?_
  refine ⟨env, L, M, he, hm, Fin.imp (Fin.bind h) fun vs H1 ⟨ds, M1, L1, s1, m1, r1, h1⟩ => ?_⟩
  unfold rng1 at h1
  split at h1
  · split at h1
    · rename_i ok
      cases r1 with
      | cons r1 r2 =>
        cases r2
        cases r1
        exact ⟨_, rfl, ok.1, ok.2, h1.end_ m1 it_range⟩
    · exact h1.elim
  · exact h1.elim
theorem ci_range2 (c : Cq G k E N sc X) (hg : GlS sc "range") (hm : G.mg "range" = none) (ha : PA X [a, b] (tAD G.K E mr)) (hs : starEach [a, b] X.env = [(false, eval a X.env), (false, eval b X.env)] := by rfl) (hs2 : starEach [b] X.env = [(false, eval b X.env)] := by rfl) :
    PI X tg (.Call (.Name "range" p) [a, b] [] pos) (tID G.K E (mRng rng2 mr)) := by
  obtain rfl := c.g
  refine (pi_range2 (c.gl hg) hm ha hs hs2).imp fun σ H R ⟨env, L, M, he, hm, h⟩ => ?_
  refine ⟨env, L, M, he, hm, Fin.imp (Fin.bind h) fun vs H1 ⟨ds, M1, L1, s1, m1, r1, h1⟩ => ?_⟩
  unfold rng2 at h1
  split at h1
  · split at h1
    · rename_i ok
      cases r1 with
      | cons r1 r2 =>
        cases r2 with
        | cons r2 r3 =>
          cases r3
          cases r1
          cases r2
          exact ⟨_, _, rfl, ⟨ok.1.1, ok.1.2, ok.2.1, ok.2.2⟩, h1.end_ m1 it_range⟩
    · exact h1.elim
  · exact h1.elim
theorem ci_range3 {d : Expr} (c : Cq G k E N sc X) (hg : GlS sc "range") (hm : G.mg "range" = none) (ha : PA X [a, b, d] (tAD G.K E mr)) (hs : starEach [a, b, d] X.env = (false, eval a X.env) :: starEach [b, d] X.env := by rfl) (hpl : (backTo pos (starEach [b, d] X.env)).any (·.1) = false := by rfl) :
    PI X tg (.Call (.Name "range" p) [a, b, d] [] pos) (tID G.K E (mRng rng3 mr)) := by
  obtain rfl := c.g
  refine (pi_range3 (c.gl hg) hm ha hs hpl).imp fun σ H R ⟨env, L, M, he, hm, h⟩ => ?_
  refine ⟨env, L, M, he, hm, Fin.imp (Fin.bind h) fun vs H1 ⟨ds, M1, L1, s1, m1, r1, h1⟩ => ?_⟩
  unfold rng3 at h1
  split at h1
  · split at h1
    · rename_i ok
      cases r1 with
      | cons r1 r2 =>
        cases r2 with
        | cons r2 r3 =>
          cases r3 with
          | cons r3 r4 =>
            cases r4
            cases r1
            cases r2
            cases r3
            obtain ⟨o1, o2, rfl⟩ := ok
            exact ⟨_, _, _, _, rfl, RgC.neg o1.1 o1.2 o2.1 o2.2, h1.end_ m1 it_rangeC⟩
    · exact h1.elim
  · exact h1.elim
/-! a, b, *c = a tuple -/
def gStarF (n i : Nat) (gs : List GD) (d : D) (env : Env) : Option Env := match d with
  | .tup ds => if n ≤ ds.length + 1 ∧ ds.length ≤ 16384 then gTs gs (ds.take i ++ [.lst ((ds.drop i).take (ds.length + 1 - n))] ++ (ds.drop i).drop (ds.length + 1 - n)) env else none
  | _ => none
def gStarD (n i : Nat) (gs : List GD) : GD := ⟨gStarF n i gs, slots gs⟩
theorem cgs_star {g : GD} {gs : List GD} {sp : Pos} (h1 : PG X e (gtD G.K g)) (h2 : PGs X es (gsD G.K gs)) : PGs X (.Starred e sp :: es) (gsD G.K (g :: gs)) := by
  refine ⟨fun pins s σ H vs us Q I r ⟨env, L, M, ds, env', he, hm, rl, q, h⟩ => (pgs_star h1 h2).run pins s σ H vs us Q I r ?_⟩
  cases rl with
  | nil => cases q
  | @cons d v ds vs r1 rs =>
    have q' : (g.f d env).bind (fun env' => gTs gs ds env') = some env' := q
    obtain ⟨env1, ge, q'⟩ := Option.bind_eq_some_iff.mp q'
    exact ⟨v, vs, rfl, env, L, M, d, env1, he, hm, r1, ge, fun H1 σ' s1 m1 e1 c1 => ⟨env1, L, M, ds, env', e1, m1, rs.step s1, q', fun H2 σ2 s2 m2 e2 c2 => h H2 σ2 (s1.trans s2) m2 e2 (c1.trans c2)⟩⟩
theorem cg_star {gs : List GD} {kk n i : Nat} (c : Cq G k E N sc X) (h : PGs X es (gsD G.K gs)) (hn : (assignEach es X.env).length = n := by rfl) (hi : i < n := by decide) (hst : (assignEach es X.env).findIdx? (·.1) = some i := by rfl) : PG X (.Tuple es kk pos) (gtD G.K (gStarD n i gs)) := by
  obtain rfl := c.g
  refine (pg_star c.calm h hn hi hst).imp fun v σ H Q ⟨env, L, M, d, env', he, hm, r, q, h⟩ => ?_
  replace q : gStarF n i gs d env = some env' := q
  unfold gStarF at q
  split at q
  · rename_i ds
    split at q
    · rename_i ok
      obtain ⟨a, vs, rfl, hq, rl⟩ := r.tup_inv
      have len := rl.length
      refine ⟨a, vs, rfl, hq, by omega, by omega, fun p hp => ?_⟩
      have st := Step.new (o := .lst ((vs.drop i).take (vs.length + 1 - n))) hm hp
      refine ⟨env, L, M, _, env', he.step st.1, hm.new hp, ?_, q, fun H2 σ2 s2 m2 e2 c2 => h H2 σ2 (st.1.trans s2) m2 e2 c2⟩
      rw [len]
      exact (((rl.take i).step st.1).append (.cons (.lst upd_same st.2 (((rl.drop i).take _).step st.1)) .nil)).append (((rl.drop i).drop _).step st.1)
    · cases q
  · cases q
end
end Ly

namespace Ly
open PySem PySem.Spec PyProof.Rows L2
/-! ### built-in functions over data -/
def fLen : MF := fun ds M => match ds with
  | [.str z] => if szOk z.length then .ok (.int (z.length : Nat)) M else .bad
  | [d] => (match dicOf d M with
    | some kvs => .ok (.int (kvs.length : Nat)) M
    | none => (match seqOf d M with
      | some xs => .ok (.int (xs.length : Nat)) M
      | none => .bad))
  | _ => .bad
def rLenA (K : PySem.W.Frag) : List V → Hp → VK → Prop := fun xs H Q => ((∃ p ys, xs = [.ref p] ∧ (SqL K H p ys ∨ SqT K H p ys) ∧ Q (.int ys.length) H) ∨ (∃ a kvs, xs = [V.ref a] ∧ H a = some (.dK kvs) ∧ Q (.int kvs.length) H)) ∨ ∃ x n, xs = [x] ∧ LenV K x H n ∧ Q (.int n) H
theorem call_lenA {X : Cx} : CallR X (.builtin "len") (rLenA X.K) := (call_len_seq.or call_lenD).or call_len
theorem one_inv {K : PySem.W.Frag} {L : Wd} {H : Hp} {d : D} {xs : List V} (r : IsL K L H [d] xs) : ∃ v, xs = [v] ∧ Is K L H d v := by
  cases r with
  | cons a b =>
    cases b
    exact ⟨_, rfl, a⟩
theorem two_inv {K : PySem.W.Frag} {L : Wd} {H : Hp} {d e : D} {xs : List V} (r : IsL K L H [d, e] xs) : ∃ v w, xs = [v, w] ∧ Is K L H d v ∧ Is K L H e w := by
  cases r with
  | cons a b =>
    obtain ⟨w, rfl, c⟩ := one_inv b
    exact ⟨_, w, rfl, a, c⟩
theorem rs_len {K : PySem.W.Frag} : RSC K (rLenA K) fLen := by
  intro E L H M ds xs Q m rl h
  unfold fLen at h
  split at h
  · obtain ⟨v, rfl, r⟩ := one_inv rl
    split at h
    · rename_i hz
      cases r
      exact .inr ⟨_, _, rfl, ⟨szOk.le hz, rfl⟩, h.end_ m (.int _)⟩
    · exact h.elim
  · obtain ⟨v, rfl, r⟩ := one_inv rl
    split at h
    · rename_i kvs hd
      obtain ⟨a, kws, rfl, q, rk⟩ := dicOf_ok m r hd
      exact .inl (.inr ⟨a, kws, rfl, q, by rw [← rk.length]; exact h.end_ m (.int _)⟩)
    · split at h
      · rename_i ys hs
        obtain ⟨a, vs, rfl, q, rk⟩ := seqOf_ok m r hs
        exact .inl (.inl ⟨a, vs, rfl, q, by rw [← rk.length]; exact h.end_ m (.int _)⟩)
      · exact h.elim
  · exact h.elim
/-- the built-in class of a thing -/
def tyName (d : D) (M : Mem) : Option String := match d with
  | .non => some "NoneType"
  | .bl _ => some "bool"
  | .int _ => some "int"
  | .str _ => some "str"
  | .tup _ => some "tuple"
  | .lst _ => some "list"
  | .scr _ => some "list"
  | .dic _ => some "dict"
  | .ref n => (match M[n]? with
    | some (.lst _) => some "list"
    | some (.dic _) => some "dict"
    | _ => none)
  | _ => none
def fIsi : MF := fun ds M => match ds with
  | [d, .ty n] => (match (tyName d M).bind fun t => kitB t n with
    | some b => .ok (.bl b) M
    | none => .bad)
  | _ => .bad
theorem ty_tup {K : PySem.W.Frag} {H : Hp} {a : Addr} {vs : List V} (q : SqT K H a vs) : TyX K H (.ref a) (.type "tuple") := by
  rcases q with (q | ⟨o, q⟩) | ⟨o, its, n, q, c, _⟩
  · exact .base (.tup q)
  · exact .fTuple q
  · exact .kTuple q c
theorem ty_lst' {K : PySem.W.Frag} {H : Hp} {a : Addr} {vs : List V} (q : SqL K H a vs) : TyX K H (.ref a) (.type "list") := by
  rcases q with (q | ⟨o, q⟩) | ⟨o, its, n, q, c, _⟩
  · exact .base (.lst q)
  · exact .base (.frz q)
  · exact .kList q c
theorem tyName_ok {K : PySem.W.Frag} {L : Wd} {H : Hp} {M : Mem} {d : D} {v : V} {t : String} (m : MemIs K L H M) (r : Is K L H d v) (h : tyName d M = some t) : TyX K H v (.type t) := by
  unfold tyName at h
  split at h
  · cases h; cases r; exact .base .non
  · cases h; cases r; exact .base (.bl _)
  · cases h; cases r; exact .base (.int _)
  · cases h; cases r; exact .base (.str _)
  · cases h
    obtain ⟨a, vs, rfl, q, _⟩ := r.tup_inv
    exact ty_tup q
  · cases h
    obtain ⟨a, vs, rfl, q, _⟩ := r.lst_inv
    exact .base (.lst q)
  · cases h
    obtain ⟨a, vs, rfl, q, _⟩ := r.scr_inv
    exact ty_lst' q
  · cases h
    cases r with
    | dic q _ _ => exact .base (.dK q)
  · obtain ⟨a, rfl, hn⟩ := ref_inv r
    split at h
    · rename_i q
      cases h
      obtain ⟨vs, q1, _⟩ := m.cell _ a _ hn q
      exact .base (.lst q1)
    · rename_i q
      cases h
      obtain ⟨vs, q1, _⟩ := m.cell _ a _ hn q
      exact .base (.dK q1)
    · cases h
  · cases h
theorem rs_isi {K : PySem.W.Frag} : RSC K (rIsi K) fIsi := by
  intro E L H M ds xs Q m rl h
  unfold fIsi at h
  split at h
  · obtain ⟨v, w, rfl, r1, r2⟩ := two_inv rl
    split at h
    · rename_i b hb
      obtain ⟨t, h1, h2⟩ := Option.bind_eq_some_iff.mp hb
      cases r2
      exact ⟨v, _, .type t, _, b, rfl, .ty _, tyName_ok m r1 h1, kit_ty h2, h.end_ m (.bl _)⟩
    · exact h.elim
  · exact h.elim
def fTuple : MF := fun ds M => match ds with
  | [.tup xs] => .ok (.tup xs) M
  | [d] => (match lstOf d M with
    | some xs => .ok (.tup xs) M
    | none => .bad)
  | _ => .bad
theorem rs_tuple {K : PySem.W.Frag} : RSC K (fun xs H Q => ∃ p ys, xs = [.ref p] ∧ ((SqL K H p ys ∧ ∀ l, H l = none → Q (.ref l) (upd H l (.tup ys))) ∨ (SqT K H p ys ∧ Q (.ref p) H))) fTuple := by
  intro E L H M ds xs Q m rl h
  unfold fTuple at h
  split at h
  · obtain ⟨v, rfl, r⟩ := one_inv rl
    obtain ⟨a, vs, rfl, q, _⟩ := r.tup_inv
    exact ⟨a, vs, rfl, .inr ⟨q, h.end_ m r⟩⟩
  · obtain ⟨v, rfl, r⟩ := one_inv rl
    split at h
    · rename_i ys hs
      obtain ⟨a, vs, rfl, q, rk⟩ := lstOf_ok m r hs
      exact ⟨a, vs, rfl, .inl ⟨q, new_tup m rk h⟩⟩
    · exact h.elim
  · exact h.elim
def fList : MF := fun ds M => match ds with
  | [d] => (match seqOf d M with
    | some xs => .ok (.lst xs) M
    | none => .bad)
  | _ => .bad
def fListC : MF := fun ds M => match ds with
  | [d] => (match seqOf d M with
    | some xs => .ok (.ref M.length) (M ++ [.lst xs])
    | none => .bad)
  | _ => .bad
def rListA (K : PySem.W.Frag) : List V → Hp → VK → Prop := fun xs H Q => ∃ p ys, xs = [.ref p] ∧ (SqL K H p ys ∨ SqT K H p ys) ∧ ∀ l, H l = none → Q (.ref l) (upd H l (.lst ys))
theorem call_listA {X : Cx} : CallR X (.type "list") (rListA X.K) := call_list_of
theorem rs_list {K : PySem.W.Frag} : RSC K (rListA K) fList := by
  intro E L H M ds xs Q m rl h
  unfold fList at h
  split at h
  · obtain ⟨v, rfl, r⟩ := one_inv rl
    split at h
    · rename_i ys hs
      obtain ⟨a, vs, rfl, q, rk⟩ := seqOf_ok m r hs
      exact ⟨a, vs, rfl, q, new_lst m rk h⟩
    · exact h.elim
  · exact h.elim
theorem rs_listC {K : PySem.W.Frag} : RSC K (rListA K) fListC := by
  intro E L H M ds xs Q m rl h
  unfold fListC at h
  split at h
  · obtain ⟨v, rfl, r⟩ := one_inv rl
    split at h
    · rename_i ys hs
      obtain ⟨a, vs, rfl, q, rk⟩ := seqOf_ok m r hs
      exact ⟨a, vs, rfl, q, new_lstC m rk h⟩
    · exact h.elim
  · exact h.elim
def blsOf : List D → Option (List Bool)
  | [] => some []
  | .bl x :: ds => (blsOf ds).map fun xs => x :: xs
  | _ => none
theorem blsOf_ok {K : PySem.W.Frag} {L : Wd} {H : Hp} : ∀ {ds : List D} {vs : List V} {xs : List Bool}, IsL K L H ds vs → blsOf ds = some xs → vs = xs.map V.bl
  | _, _, _, .nil, h => by cases h; rfl
  | _, _, _, .cons a b, h => by
    cases a <;> first | (cases (show (none : Option (List Bool)) = some _ from h)) | skip
    obtain ⟨ys, e, rfl⟩ := Option.map_eq_some_iff.mp h
    rw [blsOf_ok b e]
    rfl
def intsOf : List D → Option (List Int)
  | [] => some []
  | .int x :: ds => (intsOf ds).map fun xs => x :: xs
  | _ => none
theorem intsOf_ok {K : PySem.W.Frag} {L : Wd} {H : Hp} : ∀ {ds : List D} {vs : List V} {xs : List Int}, IsL K L H ds vs → intsOf ds = some xs → vs = xs.map V.int
  | _, _, _, .nil, h => by cases h; rfl
  | _, _, _, .cons a b, h => by
    cases a <;> first | (cases (show (none : Option (List Int)) = some _ from h)) | skip
    obtain ⟨ys, e, rfl⟩ := Option.map_eq_some_iff.mp h
    rw [intsOf_ok b e]
    rfl
def fBools (g : List Bool → Bool) : MF := fun ds M => match ds with
  | [d] => (match (lstOf d M).bind blsOf with
    | some bs => .ok (.bl (g bs)) M
    | none => .bad)
  | _ => .bad
def fSum : MF := fun ds M => match ds with
  | [d] => (match (lstOf d M).bind intsOf with
    | some ns => .ok (.int ns.sum) M
    | none => .bad)
  | _ => .bad
theorem rs_bools {K : PySem.W.Frag} {g : List Bool → Bool} : RSC K (fun vs H Q => ∃ (a : Addr) (bs : List Bool), vs = [V.ref a] ∧ SqL K H a (bs.map V.bl) ∧ Q (.bl (g bs)) H) (fBools g) := by
  intro E L H M ds xs Q m rl h
  unfold fBools at h
  split at h
  · obtain ⟨v, rfl, r⟩ := one_inv rl
    split at h
    · rename_i bs hs
      obtain ⟨es, h1, h2⟩ := Option.bind_eq_some_iff.mp hs
      obtain ⟨a, vs, rfl, q, rk⟩ := lstOf_ok m r h1
      obtain rfl := blsOf_ok rk h2
      exact ⟨a, bs, rfl, q, h.end_ m (.bl _)⟩
    · exact h.elim
  · exact h.elim
theorem rs_any {K : PySem.W.Frag} : RSC K (rAny K) (fBools fun bs => bs.any id) := rs_bools
theorem rs_all {K : PySem.W.Frag} : RSC K (rAll K) (fBools fun bs => bs.all id) := rs_bools
theorem rs_sum {K : PySem.W.Frag} : RSC K (rSum K) fSum := by
  intro E L H M ds xs Q m rl h
  unfold fSum at h
  split at h
  · obtain ⟨v, rfl, r⟩ := one_inv rl
    split at h
    · rename_i bs hs
      obtain ⟨es, h1, h2⟩ := Option.bind_eq_some_iff.mp hs
      obtain ⟨a, vs, rfl, q, rk⟩ := lstOf_ok m r h1
      obtain rfl := intsOf_ok rk h2
      exact ⟨a, bs, rfl, q, h.end_ m (.int _)⟩
    · exact h.elim
  · exact h.elim
def fInt1 : MF := fun ds M => match ds with
  | [.int i] => .ok (.int i) M
  | [.bl b] => .ok (.int (if b then 1 else 0)) M
  | _ => .bad
theorem rs_int1 {K : PySem.W.Frag} : RSC K (fun xs H Q => (∃ i, xs = [.int i] ∧ Q (.int i) H) ∨ ∃ k, xs = [.bl k] ∧ Q (.int (if k then 1 else 0)) H) fInt1 := by
  intro E L H M ds xs Q m rl h
  unfold fInt1 at h
  split at h
  · obtain ⟨v, rfl, r⟩ := one_inv rl
    cases r
    exact .inl ⟨_, rfl, h.end_ m (.int _)⟩
  · obtain ⟨v, rfl, r⟩ := one_inv rl
    cases r
    exact .inr ⟨_, rfl, h.end_ m (.int _)⟩
  · exact h.elim
def fMax2 : MF := fun ds M => match ds with
  | [.int i, .int j] => .ok (.int (if j > i then j else i)) M
  | _ => .bad
theorem rs_max2 {K : PySem.W.Frag} : RSC K (fun xs H Q => ∃ i j, xs = [.int i, .int j] ∧ Q (.int (if j > i then j else i)) H) fMax2 := by
  intro E L H M ds xs Q m rl h
  unfold fMax2 at h
  split at h
  · obtain ⟨v, w, rfl, r1, r2⟩ := two_inv rl
    cases r1; cases r2
    exact ⟨_, _, rfl, h.end_ m (.int _)⟩
  · exact h.elim
def fRepr : MF := fun ds M => match ds with
  | [d] => (match pdM M d with
    | some p => if p.showable && decide (p.depth ≤ 60) && decide (p.shown.length ≤ 1000000) then .ok (.str p.shown) M else .bad
    | none => .bad)
  | _ => .bad
theorem rs_repr {K : PySem.W.Frag} : RSC K (rRepr K) fRepr := by
  intro E L H M ds xs Q m rl h
  unfold fRepr at h
  split at h
  · obtain ⟨v, rfl, r⟩ := one_inv rl
    split at h
    · rename_i p hp
      split at h
      · rename_i hz
        have z1 := and_l hz
        exact ⟨v, p, rfl, pdM_ok m r hp, and_l z1, of_decide_eq_true (and_r z1), Nat.le_trans (of_decide_eq_true (and_r hz)) (by decide), h.end_ m (.str _)⟩
      · exact h.elim
    · exact h.elim
  · exact h.elim
/-! text.index(part), where it is -/
def fIndex : MM := fun d ds M => match d, ds with
  | .str a, [.str b] => (match Txt.index0 a b with
    | some k => .ok (.int (k : Nat)) M
    | none => .bad)
  | _, _ => .bad
theorem fIndex_inv {K : PySem.W.Frag} {E : XK} {L : Wd} {H : Hp} {d : D} {ds : List D} {M : Mem} {Q : VK} (h : Fin (Is K) K E L H (fIndex d ds M) Q) : ∃ z w j, d = .str z ∧ ds = [.str w] ∧ Txt.index0 z w = some j ∧ Fin (Is K) K E L H (.ok (.int (j : Nat)) M) Q := by
  unfold fIndex at h
  split at h
  · split at h
    · next e => exact ⟨_, _, _, rfl, rfl, e, h⟩
    · exact h.elim
  · exact h.elim
section
variable {G : Gd} {k : Nat} {E : XK} {N : List Str} {sc : Scope} {X : Cx} {a b e o kx vx : Expr} {es : List Expr} {ma mb mo : ME} {mr : MA} {pos p p2 apos cpos : Pos}
theorem ce_index (c : Cq G k E N sc X) (ho : PE X o (tD G.K E mo)) (ha : PA X [e] (tAD G.K E mr)) (hbase : attributeBase o "index" X.env (eval o X.env) = eval o X.env := by rfl)
    (few : ((backTo cpos (starEach [e] X.env)).all (fun x => !x.1) && (backToKw cpos (keywordEach [] X.env)).all (fun x => x.1.isSome) && decide ([e].length + ([] : List Keyword).length + (if ([] : List Keyword).isEmpty then 0 else 1) < 30)) = true := by rfl)
    (line : (apos.endLine == cpos.line) = true := by rfl) (first : starEach [e] X.env = (false, eval e X.env) :: starEach [] X.env := by rfl) (plain : (backTo cpos (starEach [] X.env)).any (·.1) = false := by rfl) :
    PE X (.Call (.Attribute o "index" apos) [e] [] cpos) (tD G.K E (mMeth isStr fIndex mo mr)) := by
  obtain rfl := c.g
  refine (pe_bmS PySem.F.plainAttrs_str PySem.F.slot_str_index PySem.F.type_str_index (mt_indexX c.calm takes0) ho ha hbase few line first plain).imp fun σ H Q ⟨env, L, M, he, hm, h⟩ => ?_
  refine ⟨env, L, M, he, hm, Fin.imp (Fin.bind h) fun x H1 ⟨d, M1, L1, s1, m1, r1, h1⟩ => ?_⟩
  split at h1
  · rename_i hy
    refine ⟨ty_str L1 H1 M1 d x m1 r1 hy, env, L1, M1, he.step s1, m1, Fin.imp (Fin.bind h1) fun xs H2 ⟨ds, M2, L2, s2, m2, r2, h2⟩ => ?_⟩
    obtain ⟨z, w, j, rfl, rfl, q, h3⟩ := fIndex_inv h2
    obtain ⟨v, rfl, r3⟩ := one_inv r2
    cases r1
    cases r3
    refine ⟨z, w, rfl, rfl, fun j' e => ?_, fun e => ?_⟩
    · rw [q] at e
      cases e
      exact h3.end_ m2 (.int _)
    · rw [q] at e
      cases e
  · exact h1.elim
/-! ### dict displays -/
def mPairs : List (ME × ME) → Env → Mem → Res (List (D × D))
  | [], _, M => .ok [] M
  | (mk, mv) :: r, env, M => (mk env M).bind fun x M1 => (mv env M1).bind fun y M2 => (mPairs r env M2).bind fun ps M3 => .ok ((x, y) :: ps) M3
def keysOf : List (D × D) → Option (List (Key × D))
  | [] => some []
  | (x, y) :: r => (keyOf x).bind fun k => (keysOf r).map fun ks => (k, y) :: ks
inductive IsP (K : PySem.W.Frag) (L : Wd) (H : Hp) : List (D × D) → List (V × V) → Prop
  | nil : IsP K L H [] []
  | cons {x y : D} {u v : V} {r : List (D × D)} {s : List (V × V)} : Is K L H x u → Is K L H y v → IsP K L H r s → IsP K L H ((x, y) :: r) ((u, v) :: s)
theorem IsP.mv {K : PySem.W.Frag} {L L' : Wd} {H H' : Hp} (s : Mv L H L' H') : ∀ {r : List (D × D)} {t : List (V × V)}, IsP K L H r t → IsP K L' H' r t
  | _, _, .nil => .nil
  | _, _, .cons a b c => .cons (a.mv s) (b.mv s) (IsP.mv s c)
theorem keysOf_ok {K : PySem.W.Frag} {L : Wd} {H : Hp} : ∀ {r : List (D × D)} {t : List (V × V)} {ks : List (Key × D)}, IsP K L H r t → keysOf r = some ks → ∃ ws : List (Key × V), t = ws.map (fun kv => (kV kv.1, kv.2)) ∧ IsKV K L H ks ws
  | _, _, _, .nil, h => by cases h; exact ⟨[], rfl, .nil⟩
  | _, _, _, .cons a b c, h => by
    obtain ⟨k, h1, h⟩ := Option.bind_eq_some_iff.mp h
    obtain ⟨ks, h2, rfl⟩ := Option.map_eq_some_iff.mp h
    obtain ⟨ws, rfl, r⟩ := keysOf_ok c h2
    obtain rfl := key_ok a h1
    exact ⟨(k, _) :: ws, rfl, .cons b r⟩
theorem Fin.assoc {α β γ ε : Type} {K : PySem.W.Frag} {L : Wd} {H : Hp} {Rm : Wd → Hp → γ → ε → Prop} {r : Res α} {f : α → Mem → Res β} {g : β → Mem → Res γ} {Q : ε → Hp → Prop} (h : Fin Rm K E L H ((r.bind f).bind g) Q) : Fin Rm K E L H (r.bind fun a M => (f a M).bind g) Q := by
  cases r <;> exact h
def trsOf (K : PySem.W.Frag) (E : XK) (ms : List (ME × ME)) : List (TE × TE) := ms.map fun m => (tD K E m.1, tD K E m.2)
/-- the pairs of a display, while the dict at p stands empty -/
theorem pairs_under {p : Addr} {L : Wd} {H : Hp} (hp : H p = none) {env : Env} {σ : L2.St} {Q : List (V × V) → Hp → Prop} : ∀ (ms : List (ME × ME)) (L0 : Wd) (H0 : Hp) (M0 : Mem) (f : List (D × D) → Mem → Res D) (Q' : VK), Step L H L0 H0 → MemIs G.K (L0.hide p) H0 M0 → EnvIs G.K (L0.hide p) H0 env σ →
    Fin (Is G.K) G.K E L H ((mPairs ms env M0).bind f) Q' →
    (∀ ps vs L1 H1 M1, Step L H L1 H1 → H1 p = H0 p → Mv (L0.hide p) H0 (L1.hide p) H1 → MemIs G.K (L1.hide p) H1 M1 → IsP G.K (L1.hide p) H1 ps vs → Fin (Is G.K) G.K E L H (f ps M1) Q' → Q vs H1) → tPairs (trsOf G.K E ms) σ H0 Q := by
  intro ms
  induction ms generalizing Q with
  | nil => exact fun L0 H0 M0 f Q' s0 m0 e0 h go => go [] [] L0 H0 M0 s0 rfl Mv.refl m0 .nil h
  | cons m ms ih =>
    intro L0 H0 M0 f Q' s0 m0 e0 h go
    obtain ⟨mk, mv⟩ := m
    replace h : Fin (Is G.K) G.K E L H ((mk env M0).bind fun x M1 => ((mv env M1).bind fun y M2 => (mPairs ms env M2).bind fun ps M3 => .ok ((x, y) :: ps) M3).bind f) Q' := Fin.assoc h
    refine ⟨env, L0.hide p, M0, e0, m0, Fin.imp (Fin.under hp s0 h) fun u H1 ⟨x, M1, L1, s1, q1, m1, r1, v1, h1⟩ => ?_⟩
    replace h1 := Fin.assoc h1
    refine ⟨env, L1.hide p, M1, e0.mv v1, m1, Fin.imp (Fin.under hp s1 h1) fun v H2 ⟨y, M2, L2, s2, q2, m2, r2, v2, h2⟩ => ?_⟩
    refine ih L2 H2 M2 (fun ps M3 => f ((x, y) :: ps) M3) Q' s2 m2 ((e0.mv v1).mv v2) ?_ fun ps vs L3 H3 M3 s3 q3 v3 m3 r3 h3 => ?_
    · have := Fin.assoc h2
      revert this
      cases mPairs ms env M2 <;> exact id
    · exact go ((x, y) :: ps) ((u, v) :: vs) L3 H3 M3 s3 (q3.trans (q2.trans q1)) ((v1.trans v2).trans v3) m3 (.cons ((r1.mv v2).mv v3) (r2.mv v3) r3) h3
end
end Ly

namespace Ly
open PySem PySem.Spec PyProof.Rows L2
/-! ### a thing that was built out of sight becomes a cell -/
section
variable {K : PySem.W.Frag} {L L1 : Wd} {H H1 : Hp} {M : Mem} {p : Addr}
theorem Mv.land : Mv (L.hide p) H (L.add p) H := ⟨fun n a h => by
  show (L.l ++ [p])[n]? = some a
  have h : L.l[n]? = some a := h
  rw [List.getElem?_append_left (List.getElem?_eq_some_iff.mp h).1]
  exact h, fun a o e n => ⟨e, fun z => by
    rcases List.mem_append.mp z with z | z
    · exact n.1 z
    · exact out_ne n (by simpa using z), fun z => n.2 (List.mem_cons_of_mem _ z)⟩⟩
theorem MemIs.land {c : Cell} (m : MemIs K (L.hide p) H M) (np : p ∉ L.z) (hc : CellIs K (L.add p) H c p) : MemIs K (L.add p) H (M ++ [c]) := by
  have hn : p ∉ L.l := (m.hid p List.mem_cons_self).1
  have ml : L.l.length = M.length := m.len
  refine ⟨by simp [Wd.add, ml], ?_, fun n a c' e q => ?_, fun a h => ⟨fun z => ?_, (m.hid a (List.mem_cons_of_mem _ h)).2⟩⟩
  · show (L.l ++ [p]).Nodup
    rw [List.nodup_append]
    exact ⟨m.nd, by simp, fun a ha b hb => by
      have : b = p := by simpa using hb
      subst this
      exact fun z => hn (z ▸ ha)⟩
  · have e : (L.l ++ [p])[n]? = some a := e
    by_cases h : n < L.l.length
    · rw [List.getElem?_append_left h] at e
      rw [List.getElem?_append_left (by rw [← ml]; exact h)] at q
      exact (m.cell n a c' e q).mv Mv.land rfl
    · rw [List.getElem?_append_right (by omega)] at e
      rw [List.getElem?_append_right (by rw [← ml]; omega)] at q
      have hk : n - L.l.length = 0 := by
        have := (List.getElem?_eq_some_iff.mp e).1
        simp at this
        omega
      rw [hk] at e
      rw [show n - M.length = 0 by rw [← ml]; exact hk] at q
      simp at e q
      subst e
      subst q
      exact hc
  · rcases List.mem_append.mp z with z | z
    · exact (m.hid a (List.mem_cons_of_mem _ h)).1 z
    · exact np (by rw [← show a = p by simpa using z]; exact h)
theorem Step.land (s : Step L H L1 H1) (hp : H p = none) : Step L H (L1.add p) H1 := by
  obtain ⟨l, e⟩ := s.more
  refine ⟨⟨l ++ [p], by show L1.l ++ [p] = _; rw [e, List.append_assoc]⟩, s.same, s.hid, fun a o q n => ⟨(s.keep a o q n).1, fun z => ?_, (s.keep a o q n).2.2⟩⟩
  rcases List.mem_append.mp z with z | z
  · exact (s.keep a o q n).2.1 z
  · exact ne_of_none q hp (by simpa using z)
/-- k: as a cell -/
def bdD (k : Bool) (kvs : List (Key × D)) (M : Mem) : Res D := if k then .ok (.ref M.length) (M ++ [.dic kvs]) else .ok (.dic kvs) M
def bdL (k : Bool) (ds : List D) (M : Mem) : Res D := if k then .ok (.ref M.length) (M ++ [.lst ds]) else .ok (.lst ds) M
variable {E : XK} {Q : VK}
theorem bdD_ok {k : Bool} {kvs : List (Key × D)} {kws : List (Key × V)} (s : Step L H L1 H1) (hp : H p = none) (np : p ∉ L.z) (m : MemIs K (L1.hide p) H1 M) (q : H1 p = some (.dK kws)) (r : IsKV K (L1.hide p) H1 kvs kws) (h : Fin (Is K) K E L H (bdD k kvs M) Q) : Q (.ref p) H1 := by
  have np1 : p ∉ L1.z := by rw [s.same]; exact np
  unfold bdD at h
  split at h
  · refine h (L1.add p) H1 _ (s.land hp) (m.land np1 ⟨kws, q, r.mv Mv.land⟩) (.ref ?_)
    have : L1.l.length = M.length := m.len
    rw [← this]
    simp [Wd.add]
  · exact h L1 H1 _ s m.show (.dic q ⟨(m.hid p List.mem_cons_self).1, np1⟩ (r.mv Mv.show))
theorem bdL_ok {k : Bool} {ds : List D} {vs : List V} (s : Step L H L1 H1) (hp : H p = none) (np : p ∉ L.z) (m : MemIs K (L1.hide p) H1 M) (q : H1 p = some (.lst vs)) (r : IsL K (L1.hide p) H1 ds vs) (h : Fin (Is K) K E L H (bdL k ds M) Q) : Q (.ref p) H1 := by
  have np1 : p ∉ L1.z := by rw [s.same]; exact np
  unfold bdL at h
  split at h
  · refine h (L1.add p) H1 _ (s.land hp) (m.land np1 ⟨vs, q, r.mv Mv.land⟩) (.ref ?_)
    have : L1.l.length = M.length := m.len
    rw [← this]
    simp [Wd.add]
  · exact h L1 H1 _ s m.show (.lst q ⟨(m.hid p List.mem_cons_self).1, np1⟩ (r.mv Mv.show))
end
/-! ### dict displays -/
def mDisp (kp : Bool) (ms : List (ME × ME)) : ME := fun env M => (mPairs ms env M).bind fun ps M1 => match keysOf ps with
  | some ks => if ks.length ≤ 15 then bdD kp (mergeD [] ks) M1 else .bad
  | none => .bad
def mDNew (kp : Bool) : ME := fun _ M => bdD kp [] M
section
variable {G : Gd} {k : Nat} {E : XK} {N : List Str} {sc : Scope} {X : Cx} {pos : Pos} {kp : Bool}
theorem ce_dnew : PE X (.Dict [] [] pos) (tD G.K E (mDNew kp)) := pe_dnewK.imp fun σ H Q ⟨env, L, M, he, hm, h⟩ p hp =>
  bdD_ok (Step.new hm hp).1 hp (hm.out hp).2 (hm.hide hp) upd_same .nil h
theorem ce_disp {keys : List (Option Expr)} {values : List Expr} {ms : List (ME × ME)} (h : PPs X pos keys values (trsOf G.K E ms)) (hall : keys.all (·.isSome) = true := by rfl) (hl : keys.length = values.length := by rfl) (h0 : keys ≠ [] := by nofun) (h15 : keys.length ≤ 15 := by decide) :
    PE X (.Dict keys values pos) (tD G.K E (mDisp kp ms)) := by
  refine (pe_disp h hall hl h0 h15).imp fun σ H Q ⟨env, L, M, he, hm, h⟩ p hp => ?_
  refine pairs_under hp ms L (upd H p (.dK [])) M _ Q (Step.new hm hp).1 (hm.hide hp) (he.mv (Mv.hide hp)) h fun ps vs L1 H1 M1 s1 q1 v1 m1 r1 h1 => ?_
  cases e : keysOf ps with
  | none =>
    simp only [e] at h1
    exact h1.elim
  | some ks =>
    simp only [e] at h1
    obtain ⟨ws, rfl, rw_⟩ := keysOf_ok r1 e
    split at h1
    · next hz =>
      refine ⟨q1.trans upd_same, ws, rfl, by rw [← rw_.length]; exact hz, ?_⟩
      exact bdD_ok (s1.built (hm.out hp).2 hp) hp (hm.out hp).2 m1.built upd_same ((merge_ok rw_ .nil).mv Mv.built) h1
    · exact h1.elim
theorem cps_cons {ka va : Expr} {ks : List (Option Expr)} {vs : List Expr} {mk mw : ME} {ms : List (ME × ME)} (hk : PE X ka (tD G.K E mk)) (hv : PE X va (tD G.K E mw)) (hr : PPs X pos ks vs (trsOf G.K E ms)) : PPs X pos (some ka :: ks) (va :: vs) (trsOf G.K E ((mk, mw) :: ms)) := pps_cons hk hv hr
theorem cps_nil : PPs X pos [] [] (trsOf G.K E []) := pps_nil
/-! ### dict comprehensions -/
open Classical in
noncomputable def compD (g : GD) (t : MT) (ek el : ME) (chk : Mem → Prop) (env : Env) : List D → List (Key × D) → Mem → Res (List (Key × D))
  | [], acc, M => if chk M then .ok acc M else .bad
  | d :: ds, acc, M => if chk M then (match g.f d env with
      | some env' => (noX (t env' M)).bind fun c M1 => if c then (noX (ek env' M1)).bind fun x M2 => (noX (el env' M2)).bind fun y M3 => (match keyOf x with
          | some ky => if szOk (acc.length + 1) then compD g t ek el chk env ds (putD acc ky y) M3 else .bad
          | none => .bad) else compD g t ek el chk env ds acc M1
      | none => .bad) else .bad
noncomputable def mDc (kp : Bool) (mi : MI) (g : GD) (t : MT) (ek el : ME) (vs : List Nat) : ME := fun env M => (mi env M).bind fun it M1 => (compD g t ek el it.chk (wipeD env vs) it.items [] M1).bind fun ds M2 => bdD kp ds M2
theorem dc_sim {mi : MI} {g : GD} {t : MT} {ek el : ME} {vs : List Nat} (hsl : ∀ i ∈ g.sl, i ∈ vs) {σ : L2.St} {H : Hp} {Q : VK} (h : tD G.K E (mDc kp mi g t ek el vs) σ H Q) :
    tDc (tID G.K E mi) (gtD G.K g) (tTD G.K E0 t) (tD G.K E0 ek) (tD G.K E0 el) vs σ H Q := by
  obtain ⟨env, L, M, he, hm, h⟩ := h
  refine ⟨env, L, M, he, hm, Fin.imp (Fin.bind h) fun J H1 ⟨it, M1, L1, s1, m1, r1, h1⟩ p hp => ?_⟩
  have e1 := he.step s1
  have op := m1.out hp
  refine ⟨fun i n H' => ∃ L' M' acc avs, n = it.items.length - i ∧ i ≤ it.items.length ∧ Step L1 H1 L' H' ∧ MemIs G.K (L'.hide p) H' M' ∧ H' p = some (.dK avs) ∧ IsKV G.K (L'.hide p) H' acc avs ∧
      Fin (Is G.K) G.K E L1 H1 ((compD g t ek el it.chk (wipeD env vs) (it.items.drop i) acc M').bind fun ds M2 => bdD kp ds M2) Q,
    ⟨_, L1, M1, [], [], rfl, Nat.zero_le _, (Step.new m1 hp).1, m1.hide hp, upd_same, .nil, h1⟩, ?_⟩
  rintro i n H2 ⟨L2, M2, acc, avs, rfl, hi', s2, m2, q2, a2, h2⟩
  have mv2 : Mv L1 H1 (L2.hide p) H2 := s2.mvHide hp
  by_cases hlt : i < it.items.length
  · rw [List.drop_eq_getElem_cons hlt] at h2
    unfold compD at h2
    split at h2
    · rename_i hc
      have itx := r1 (L2.hide p) H2 M2 mv2 m2 hc i
      obtain ⟨go, yl⟩ := itx.1 _ (List.getElem?_eq_getElem hlt)
      refine .inr ⟨go, fun H3 => ∃ L' M' acc avs, Step L1 H1 L' H3 ∧ MemIs G.K (L'.hide p) H3 M' ∧ H3 p = some (.dK avs) ∧ IsKV G.K (L'.hide p) H3 acc avs ∧
        Fin (Is G.K) G.K E L1 H1 ((compD g t ek el it.chk (wipeD env vs) (it.items.drop (i + 1)) acc M').bind fun ds M2 => bdD kp ds M2) Q, fun H3 ⟨L', M', acc, avs, x1, x2, x3, x4, x5⟩ => ⟨_, by omega, L', M', acc, avs, rfl, hlt, x1, x2, x3, x4, x5⟩, fun x H3 y => ?_⟩
      obtain ⟨s3, m3, r3⟩ := yl x H3 y
      cases q : g.f it.items[i] (wipeD env vs) with
      | none =>
        rw [q] at h2
        exact h2.elim
      | some env3 =>
        rw [q] at h2
        refine ⟨wipeD env vs, L2.hide p, M2, _, env3, ((e1.mv mv2).step s3).wipe vs, m3, r3, q, fun H4 σ4 s4 m4 e4 c4 => ⟨wipe_chg c4 hsl, env3, L2.hide p, M2, e4, m4, ?_⟩⟩
        replace s3 := s3.trans s4
        obtain ⟨s23, e23, s23'⟩ := s2.over hp s3
        cases ht : t env3 M2 with
        | bad =>
          simp only [ht] at h2
          exact h2.elim
        | exc x M =>
          simp only [ht] at h2
          exact h2.elim
        | ok c M4 =>
          simp only [ht] at h2
          intro L5 H5 b5 s5 m5 r5
          cases r5
          obtain ⟨L5', rfl, s15⟩ := s2.over hp (s3.trans s5)
          have q5 : H5 p = some (.dK avs) := ((s3.trans s5).hid p List.mem_cons_self).trans q2
          have a5 := a2.step (s3.trans s5)
          cases c with
          | false =>
            rw [if_neg Bool.false_ne_true]
            exact ⟨L5', M4, acc, avs, s15, m5, q5, a5, h2⟩
          | true =>
            rw [if_pos rfl]
            refine ⟨env3, L5'.hide p, M4, e4.step s5, m5, ?_⟩
            replace h2 : Fin (Is G.K) G.K E L1 H1 (((noX (ek env3 M4)).bind fun x M2 => (noX (el env3 M2)).bind fun y M3 => (match keyOf x with
              | some ky => if szOk (acc.length + 1) then compD g t ek el it.chk (wipeD env vs) (it.items.drop (i + 1)) (putD acc ky y) M3 else .bad
              | none => .bad)).bind fun ds M2 => bdD kp ds M2) Q := h2
            cases hx : ek env3 M4 with
            | bad =>
              rw [hx] at h2
              exact h2.elim
            | exc x M =>
              rw [hx] at h2
              exact h2.elim
            | ok xd M5 =>
              rw [hx] at h2
              intro L6 H6 xv s6 m6 r6
              replace h2 : Fin (Is G.K) G.K E L1 H1 (((noX (el env3 M5)).bind fun y M3 => (match keyOf xd with
                | some ky => if szOk (acc.length + 1) then compD g t ek el it.chk (wipeD env vs) (it.items.drop (i + 1)) (putD acc ky y) M3 else .bad
                | none => .bad)).bind fun ds M2 => bdD kp ds M2) Q := h2
              refine ⟨env3, L6, M5, (e4.step s5).step s6, m6, ?_⟩
              cases hy : el env3 M5 with
              | bad =>
                rw [hy] at h2
                exact h2.elim
              | exc x M =>
                rw [hy] at h2
                exact h2.elim
              | ok yd M6 =>
                rw [hy] at h2
                intro L7 H7 yv s7 m7 r7
                obtain ⟨L7', rfl, s17⟩ := s2.over hp (((s3.trans s5).trans s6).trans s7)
                have q7 : H7 p = some (.dK avs) := ((((s3.trans s5).trans s6).trans s7).hid p List.mem_cons_self).trans q2
                have a7 := a2.step (((s3.trans s5).trans s6).trans s7)
                replace h2 : Fin (Is G.K) G.K E L1 H1 ((match keyOf xd with
                  | some ky => if szOk (acc.length + 1) then compD g t ek el it.chk (wipeD env vs) (it.items.drop (i + 1)) (putD acc ky yd) M6 else .bad
                  | none => .bad).bind fun ds M2 => bdD kp ds M2) Q := h2
                cases hk : keyOf xd with
                | none =>
                  rw [hk] at h2
                  exact h2.elim
                | some ky =>
                  rw [hk] at h2
                  replace h2 : Fin (Is G.K) G.K E L1 H1 ((if szOk (acc.length + 1) then compD g t ek el it.chk (wipeD env vs) (it.items.drop (i + 1)) (putD acc ky yd) M6 else .bad).bind fun ds M2 => bdD kp ds M2) Q := h2
                  split at h2
                  · rename_i hz
                    refine ⟨avs, ky, key_ok r6 hk, q7, ?_, L7', M6, putD acc ky yd, putK avs ky yv, s17.built op.2 hp, m7.built, upd_same, (put_ok r7 a7).mv Mv.built, h2⟩
                    have := szOk.le hz
                    rw [a7.length] at this
                    omega
                  · exact h2.elim
    · exact h2.elim
  · have e : i = it.items.length := by omega
    subst e
    rw [List.drop_length] at h2
    unfold compD at h2
    split at h2
    · rename_i hc
      exact .inl ⟨(r1 (L2.hide p) H2 M2 mv2 m2 hc _).2 rfl, bdD_ok s2 hp op.2 m2 q2 a2 h2⟩
    · exact h2.elim
/-- {kx: vx for tg in iter if ..} -/
theorem ce_dc {kx vx tg iter : Expr} {ifs : List Expr} {scope : Scope} {own : List (Str × Nat)} {mi : MI} {g : GD} {t : MT} {ek el : ME} (c : Cq G k E N sc X) (hi : PI X tg iter (tID G.K E mi)) (ok : blkC N sc scope own = true) (hk : scope.kind = ScopeKind.function)
    (hg : ∀ Y, Cq G k E0 N (relS scope sc) Y → Y.fn = (fun x => scope.names.lookup x == some .cell) → PG Y tg (gtD G.K g)) (ht : ∀ Y, Cq G k E0 N (relS scope sc) Y → PTs Y ifs (tTD G.K E0 t)) (hx : ∀ Y, Cq G k E0 N (relS scope sc) Y → PE Y kx (tD G.K E0 ek)) (he : ∀ Y, Cq G k E0 N (relS scope sc) Y → PE Y vx (tD G.K E0 el))
    (hsl : ∀ i ∈ g.sl, i ∈ own.map (·.2)) (hs : ∀ x, foldedSetIterable iter X.env x = pure x := by intro _; rfl) : PE X (.DictComp kx vx [⟨tg, iter, ifs, 0⟩] scope pos) (tD G.K E (mDc kp mi g t ek el (own.map (·.2)))) :=
  (pe_dc (own := own) c.calm (by rw [c.n]; exact c.nd) hi (by rw [c.n, c.scq]; exact blkOk_by ok) (fun s H C cl fp => hg _ (cq_blk c hk s H C cl fp) rfl) (fun s H C cl fp => ht _ (cq_blk c hk s H C cl fp)) (fun s H C cl fp => hx _ (cq_blk c hk s H C cl fp)) (fun s H C cl fp => he _ (cq_blk c hk s H C cl fp)) hs).imp fun σ H Q h => dc_sim hsl h
end
end Ly

namespace L2
open PySem PySem.Spec PyProof.Rows
variable {X : Cx}
/-- name = {..: .. for ..} on one line, the name a local -/
theorem ps_setDc {i : Nat} {y : Str} {py : Pos} {kx vx tg iter : Expr} {ifs : List Expr} {scope : Scope} {own : List (Str × Nat)} {pos spos : Pos} {wi : TI} {g : TG} {tt : TT} {tk tv : TE} (hc : X.calm = true) (hN : X.N.Nodup) (hy : X.N[i]? = some y) (hyl : X.env.scope.names.lookup y = some .local)
    (hsw : swapsWith (.DictComp kx vx [⟨tg, iter, ifs, 0⟩] scope pos) (some (.Name y py)) spos.line X.env = pure true) (hi : PI X tg iter wi) (ok : BlkOk X.N X.env.scope scope own)
    (hg : ∀ (s : Shared) (H : Hp) (C : Addr) (cl : List (Str × Addr)) (fp : List Addr), PG (X.blk s H scope (compEnvC scope cl C X.env) fp) tg g) (ht : ∀ (s : Shared) (H : Hp) (C : Addr) (cl : List (Str × Addr)) (fp : List Addr), PTs (X.blk s H scope (compEnvC scope cl C X.env) fp) ifs tt)
    (hk : ∀ (s : Shared) (H : Hp) (C : Addr) (cl : List (Str × Addr)) (fp : List Addr), PE (X.blk s H scope (compEnvC scope cl C X.env) fp) kx tk)
    (he : ∀ (s : Shared) (H : Hp) (C : Addr) (cl : List (Str × Addr)) (fp : List Addr), PE (X.blk s H scope (compEnvC scope cl C X.env) fp) vx tv) (hs : ∀ x, foldedSetIterable iter X.env x = pure x := by intro _; rfl) :
    PS X (.Assign [.Name y py] (.DictComp kx vx [⟨tg, iter, ifs, 0⟩] scope pos) spos) (tAsg (tDc wi g tt tk tv (own.map (·.2))) (gName i)) := by
  refine ⟨fun pins s σ H D I h => ?_⟩
  rw [exec_Assign_Name_used _ _ _ _ hsw]
  refine wpAny_bind (wpAny_standAt (wpAny_bind ?_))
  show wpAny _ X.A (do let _ ← comprehension (.DictComp kx vx [⟨tg, iter, ifs, 0⟩] scope pos) scope X.env (firstIterPos [⟨tg, iter, ifs, 0⟩] pos) newDict false (eval iter X.env) (some (assign (.Name y py) X.env))) _ _ s
  have h : tDc wi g tt tk tv (own.map (·.2)) σ H (fun x H1 => gName i x σ H1 D.nx) := h
  refine wpAny_bind (thn (dc_core (Qf := fun _ s' => SP X pins D .next s') hc hN I hi ok hg ht hk he hs h fun L C s' m H' I' q hn f => ?_) fun _ s' hq => wpAny_pure (wpAny_pure hq))
  show wpAny _ _ (assign (.Name y py) X.env (.ref L)) _ _ _
  refine wpAny_assign_Name (store_ok2 (v := V.ref L) I' hN hy (.inl hyl) rfl (fun s2 I2 ⟨a, sb, ha⟩ => ?_) (.inr hyl))
  obtain ⟨f0, f1, f2, f3, f4, f5⟩ := f
  have haC : C ≠ a := by
    rcases ha with z | z
    · rw [z]; exact f1
    · exact fun e => f4 y a z e.symm
  refine ⟨m, hn.sameBut sb haC, fun h3 sb3 => ?_⟩
  exact ⟨_, H', I2.turned (t' := s2.toks) (fun b o hb e => (sb3.2 b hb).trans e) f0 f1 f3 f4 f5, q⟩
theorem sw_trueD {kx vx : Expr} {gs : List Comprehension} {scope : Scope} {pos py : Pos} {y : Str} {l : Nat} {env : Env} (hk : env.scope.kind = .function) (hy : env.scope.names.lookup y = some .local) (hl : (py.line == pos.line) = true)
    (ha : (scope.names.any fun (n, k) => n == y && (k == .local || k == .cell)) = false) : swapsWith (.DictComp kx vx gs scope pos) (some (.Name y py)) l env = pure true := by
  have ky : env.kindOf y = some .local := hy
  have hb : env.blockKind = .function := by unfold Env.blockKind; rw [hk]; rfl
  unfold swapsWith
  simp only [hb, ky, ha, Expr.pos, hl]
  rfl
end L2
namespace Ly
open PySem PySem.Spec PyProof.Rows L2
section
variable {G : Gd} {k : Nat} {E : XK} {N : List Str} {sc : Scope} {X : Cx} {pos : Pos} {kp : Bool}
/-- name = [..], the list frozen, by the names alone -/
theorem cs_lc {i : Nat} {y : Str} {py spos : Pos} {elt tg iter : Expr} {ifs : List Expr} {scope : Scope} {own : List (Str × Nat)} {mi : MI} {g : GD} {t : MT} {el : ME} (c : Cq G k E N sc X) (hy : N[i]? = some y) (hyl : sc.names.lookup y = some NameKind.local)
    (hi : PI X tg iter (tID G.K E mi)) (ok : blkC N sc scope own = true) (hk : scope.kind = ScopeKind.function)
    (hg : ∀ Y, Cq G k E0 N (relS scope sc) Y → Y.fn = (fun x => scope.names.lookup x == some .cell) → PG Y tg (gtD G.K g)) (ht : ∀ Y, Cq G k E0 N (relS scope sc) Y → PTs Y ifs (tTD G.K E0 t)) (he : ∀ Y, Cq G k E0 N (relS scope sc) Y → PE Y elt (tD G.K E0 el))
    (hsl : ∀ i ∈ g.sl, i ∈ own.map (·.2)) (hl : (py.line == pos.line) = true := by rfl) (ha : (scope.names.any fun (n, k) => n == y && (k == .local || k == .cell)) = false := by rfl) (hs : ∀ x, foldedSetIterable iter X.env x = pure x := by intro _; rfl) :
    PS X (.Assign [.Name y py] (.ListComp elt [⟨tg, iter, ifs, 0⟩] scope pos) spos) (sD G.K E (mAsg (mLc mi g t el (own.map (·.2))) (gN i))) :=
  cs_setLc c hy hyl (sw_true (by rw [c.scq]; exact c.kd) (by rw [c.scq]; exact hyl) hl ha) hi ok hk hg ht he hsl hs
theorem cs_dc {i : Nat} {y : Str} {py spos : Pos} {kx vx tg iter : Expr} {ifs : List Expr} {scope : Scope} {own : List (Str × Nat)} {mi : MI} {g : GD} {t : MT} {ek el : ME} (c : Cq G k E N sc X) (hy : N[i]? = some y) (hyl : sc.names.lookup y = some NameKind.local)
    (hi : PI X tg iter (tID G.K E mi)) (ok : blkC N sc scope own = true) (hk : scope.kind = ScopeKind.function)
    (hg : ∀ Y, Cq G k E0 N (relS scope sc) Y → Y.fn = (fun x => scope.names.lookup x == some .cell) → PG Y tg (gtD G.K g)) (ht : ∀ Y, Cq G k E0 N (relS scope sc) Y → PTs Y ifs (tTD G.K E0 t)) (hx : ∀ Y, Cq G k E0 N (relS scope sc) Y → PE Y kx (tD G.K E0 ek)) (he : ∀ Y, Cq G k E0 N (relS scope sc) Y → PE Y vx (tD G.K E0 el))
    (hsl : ∀ i ∈ g.sl, i ∈ own.map (·.2)) (hl : (py.line == pos.line) = true := by rfl) (ha : (scope.names.any fun (n, k) => n == y && (k == .local || k == .cell)) = false := by rfl) (hs : ∀ x, foldedSetIterable iter X.env x = pure x := by intro _; rfl) :
    PS X (.Assign [.Name y py] (.DictComp kx vx [⟨tg, iter, ifs, 0⟩] scope pos) spos) (sD G.K E (mAsg (mDc kp mi g t ek el (own.map (·.2))) (gN i))) := by
  refine (ps_setDc (i := i) (own := own) c.calm (by rw [c.n]; exact c.nd) (by rw [c.n]; exact hy) (by rw [c.scq]; exact hyl) (sw_trueD (by rw [c.scq]; exact c.kd) (by rw [c.scq]; exact hyl) hl ha) hi (by rw [c.n, c.scq]; exact blkOk_by ok) (fun s H C cl fp => hg _ (cq_blk c hk s H C cl fp) rfl) (fun s H C cl fp => ht _ (cq_blk c hk s H C cl fp)) (fun s H C cl fp => hx _ (cq_blk c hk s H C cl fp)) (fun s H C cl fp => he _ (cq_blk c hk s H C cl fp)) hs).imp fun T σ H ⟨env, L, M, he, hm, h⟩ => ?_
  refine dc_sim (G := G) (E := E) hsl ⟨env, L, M, he, hm, Fin.imp (Fin.bindS h) fun v H1 ⟨d, M1, L1, s1, m1, r1, h1⟩ => ?_⟩
  exact h1 L1 H1 _ Step.refl m1 ((he.step s1).set i r1)
end
end Ly

namespace Ly
open PySem PySem.Spec PyProof.Rows L2
section
variable {G : Gd} {k : Nat} {E : XK} {N : List Str} {sc : Scope} {X : Cx} {a b e o : Expr} {es : List Expr} {ma mb mo : ME} {mr : MA} {pos p p2 apos cpos : Pos}
theorem hu64 {k : Nat} {A : Around} (r : Room k A) : A.units + 64 < cLine := by
  have := r.un
  omega
/-! ### operators, by the context -/
theorem ce_add (c : Cq G k E N sc X) (ha : PE X a (tD G.K E ma)) (hb : PE X b (tD G.K E mb)) : PE X (.BinOp a .Add b pos) (tD G.K E (mBin opAdd ma mb)) := by
  obtain rfl := c.g
  exact ce_op op_addA rs_add ha hb
theorem ce_sub (c : Cq G k E N sc X) (ha : PE X a (tD G.K E ma)) (hb : PE X b (tD G.K E mb)) : PE X (.BinOp a .Sub b pos) (tD G.K E (mBin opSub ma mb)) := by
  obtain rfl := c.g
  exact ce_op op_sub rs_sub ha hb
theorem ce_mul (c : Cq G k E N sc X) (ha : PE X a (tD G.K E ma)) (hb : PE X b (tD G.K E mb)) : PE X (.BinOp a .Mult b pos) (tD G.K E (mBin opMul ma mb)) := by
  obtain rfl := c.g
  exact ce_op op_mulA rs_mul ha hb
theorem ce_fdiv (c : Cq G k E N sc X) (ha : PE X a (tD G.K E ma)) (hb : PE X b (tD G.K E mb)) : PE X (.BinOp a .FloorDiv b pos) (tD G.K E (mBin opFdiv ma mb)) := by
  obtain rfl := c.g
  exact ce_op op_fdivN rs_fdiv ha hb
theorem ce_fdivW (c : Cq G k E N sc X) (ha : PE X a (tD G.K E ma)) (hb : PE X b (tD G.K E mb)) : PE X (.BinOp a .FloorDiv b pos) (tD G.K E (mBin opFdivW ma mb)) := by
  obtain rfl := c.g
  exact ce_op op_fdivW rs_fdivW ha hb
theorem ce_mod (c : Cq G k E N sc X) (ha : PE X a (tD G.K E ma)) (hb : PE X b (tD G.K E mb)) : PE X (.BinOp a .Mod b pos) (tD G.K E (mBin opMod ma mb)) := by
  obtain rfl := c.g
  exact ce_op op_modN rs_mod ha hb
theorem ce_pow (c : Cq G k E N sc X) (ha : PE X a (tD G.K E ma)) (hb : PE X b (tD G.K E mb)) : PE X (.BinOp a .Pow b pos) (tD G.K E (mBin opPow ma mb)) := by
  obtain rfl := c.g
  exact ce_op op_pow rs_pow ha hb
theorem ce_lt (c : Cq G k E N sc X) (ha : PE X a (tD G.K E ma)) (hb : PE X b (tD G.K E mb))  : PE X (.Compare a [.Lt] [b] pos) (tD G.K E (mBin opLt ma mb)) := by
  obtain rfl := c.g
  exact ce_cmp op_lt rs_lt ha hb (nomark b)
theorem ct_lt (c : Cq G k E N sc X) (ha : PE X a (tD G.K E ma)) (hb : PE X b (tD G.K E mb))  : PT X (.Compare a [.Lt] [b] pos) (tTD G.K E (mTest (mBin opLt ma mb))) := by
  obtain rfl := c.g
  exact ct_cmp op_lt rs_lt ha hb (nomark b)
theorem ce_le (c : Cq G k E N sc X) (ha : PE X a (tD G.K E ma)) (hb : PE X b (tD G.K E mb))  : PE X (.Compare a [.LtE] [b] pos) (tD G.K E (mBin opLe ma mb)) := by
  obtain rfl := c.g
  exact ce_cmp op_le rs_le ha hb (nomark b)
theorem ct_le (c : Cq G k E N sc X) (ha : PE X a (tD G.K E ma)) (hb : PE X b (tD G.K E mb))  : PT X (.Compare a [.LtE] [b] pos) (tTD G.K E (mTest (mBin opLe ma mb))) := by
  obtain rfl := c.g
  exact ct_cmp op_le rs_le ha hb (nomark b)
theorem ce_gt (c : Cq G k E N sc X) (ha : PE X a (tD G.K E ma)) (hb : PE X b (tD G.K E mb))  : PE X (.Compare a [.Gt] [b] pos) (tD G.K E (mBin opGt ma mb)) := by
  obtain rfl := c.g
  exact ce_cmp op_gt rs_gt ha hb (nomark b)
theorem ct_gt (c : Cq G k E N sc X) (ha : PE X a (tD G.K E ma)) (hb : PE X b (tD G.K E mb))  : PT X (.Compare a [.Gt] [b] pos) (tTD G.K E (mTest (mBin opGt ma mb))) := by
  obtain rfl := c.g
  exact ct_cmp op_gt rs_gt ha hb (nomark b)
theorem ce_ge (c : Cq G k E N sc X) (ha : PE X a (tD G.K E ma)) (hb : PE X b (tD G.K E mb))  : PE X (.Compare a [.GtE] [b] pos) (tD G.K E (mBin opGe ma mb)) := by
  obtain rfl := c.g
  exact ce_cmp op_ge rs_ge ha hb (nomark b)
theorem ct_ge (c : Cq G k E N sc X) (ha : PE X a (tD G.K E ma)) (hb : PE X b (tD G.K E mb))  : PT X (.Compare a [.GtE] [b] pos) (tTD G.K E (mTest (mBin opGe ma mb))) := by
  obtain rfl := c.g
  exact ct_cmp op_ge rs_ge ha hb (nomark b)
theorem ce_eq (c : Cq G k E N sc X) (ha : PE X a (tD G.K E ma)) (hb : PE X b (tD G.K E mb))  : PE X (.Compare a [.Eq] [b] pos) (tD G.K E (mBin opEq ma mb)) := by
  obtain rfl := c.g
  exact ce_cmp (op_eqA (hu64 c.room)) rs_eq ha hb (nomark b)
theorem ct_eq (c : Cq G k E N sc X) (ha : PE X a (tD G.K E ma)) (hb : PE X b (tD G.K E mb))  : PT X (.Compare a [.Eq] [b] pos) (tTD G.K E (mTest (mBin opEq ma mb))) := by
  obtain rfl := c.g
  exact ct_cmp (op_eqA (hu64 c.room)) rs_eq ha hb (nomark b)
theorem ce_ne (c : Cq G k E N sc X) (ha : PE X a (tD G.K E ma)) (hb : PE X b (tD G.K E mb))  : PE X (.Compare a [.NotEq] [b] pos) (tD G.K E (mBin opNe ma mb)) := by
  obtain rfl := c.g
  exact ce_cmp (op_neA (hu64 c.room)) rs_ne ha hb (nomark b)
theorem ct_ne (c : Cq G k E N sc X) (ha : PE X a (tD G.K E ma)) (hb : PE X b (tD G.K E mb))  : PT X (.Compare a [.NotEq] [b] pos) (tTD G.K E (mTest (mBin opNe ma mb))) := by
  obtain rfl := c.g
  exact ct_cmp (op_neA (hu64 c.room)) rs_ne ha hb (nomark b)
theorem ce_in (c : Cq G k E N sc X) (ha : PE X a (tD G.K E ma)) (hb : PE X b (tD G.K E mb)) (hm : behindInMarks .In b = false := by with_unfolding_all rfl) : PE X (.Compare a [.In] [b] pos) (tD G.K E (mBin opIn ma mb)) := by
  obtain rfl := c.g
  exact ce_cmp (op_inA (hu_of c.room)) rs_in ha hb hm
theorem ct_in (c : Cq G k E N sc X) (ha : PE X a (tD G.K E ma)) (hb : PE X b (tD G.K E mb)) (hm : behindInMarks .In b = false := by with_unfolding_all rfl) : PT X (.Compare a [.In] [b] pos) (tTD G.K E (mTest (mBin opIn ma mb))) := by
  obtain rfl := c.g
  exact ct_cmp (op_inA (hu_of c.room)) rs_in ha hb hm
theorem ce_notIn (c : Cq G k E N sc X) (ha : PE X a (tD G.K E ma)) (hb : PE X b (tD G.K E mb)) (hm : behindInMarks .NotIn b = false := by with_unfolding_all rfl) : PE X (.Compare a [.NotIn] [b] pos) (tD G.K E (mBin opNotIn ma mb)) := by
  obtain rfl := c.g
  exact ce_cmp (op_notInA (hu_of c.room)) rs_notIn ha hb hm
theorem ct_notIn (c : Cq G k E N sc X) (ha : PE X a (tD G.K E ma)) (hb : PE X b (tD G.K E mb)) (hm : behindInMarks .NotIn b = false := by with_unfolding_all rfl) : PT X (.Compare a [.NotIn] [b] pos) (tTD G.K E (mTest (mBin opNotIn ma mb))) := by
  obtain rfl := c.g
  exact ct_cmp (op_notInA (hu_of c.room)) rs_notIn ha hb hm
/-! ### built-in functions, by the context -/
theorem ce_len (c : Cq G k E N sc X) (hm : G.mg "len" = none) (ha : PA X (e :: es) (tAD G.K E mr)) (hg : sc.names.lookup ("len" : Str) = some NameKind.globalImplicit := by rfl)
    (he : starEach (e :: es) X.env = (false, eval e X.env) :: starEach es X.env := by rfl) (hpl : (backTo pos (starEach es X.env)).any (·.1) = false := by rfl) :
    PE X (.Call (.Name "len" p) (e :: es) [] pos) (tD G.K E (mCB fLen mr)) := by
  obtain rfl := c.g
  exact ce_callB call_lenA rs_len c hg hm (by decide +kernel) ha (by decide +kernel) (by decide +kernel) he hpl
theorem ce_isi (c : Cq G k E N sc X) (hm : G.mg "isinstance" = none) (ha : PA X (e :: es) (tAD G.K E mr)) (hg : sc.names.lookup ("isinstance" : Str) = some NameKind.globalImplicit := by rfl)
    (he : starEach (e :: es) X.env = (false, eval e X.env) :: starEach es X.env := by rfl) (hpl : (backTo pos (starEach es X.env)).any (·.1) = false := by rfl) :
    PE X (.Call (.Name "isinstance" p) (e :: es) [] pos) (tD G.K E (mCB fIsi mr)) := by
  obtain rfl := c.g
  exact ce_callB call_isi rs_isi c hg hm (by decide +kernel) ha (by decide +kernel) (by decide +kernel) he hpl
theorem ce_tuple (c : Cq G k E N sc X) (hm : G.mg "tuple" = none) (ha : PA X (e :: es) (tAD G.K E mr)) (hg : sc.names.lookup ("tuple" : Str) = some NameKind.globalImplicit := by rfl)
    (he : starEach (e :: es) X.env = (false, eval e X.env) :: starEach es X.env := by rfl) (hpl : (backTo pos (starEach es X.env)).any (·.1) = false := by rfl) :
    PE X (.Call (.Name "tuple" p) (e :: es) [] pos) (tD G.K E (mCB fTuple mr)) := by
  obtain rfl := c.g
  exact ce_callT call_tuple_of rs_tuple c hg hm (by decide +kernel) ha (by decide +kernel) (by decide +kernel) he hpl
theorem ce_list (c : Cq G k E N sc X) (hm : G.mg "list" = none) (ha : PA X (e :: es) (tAD G.K E mr)) (hg : sc.names.lookup ("list" : Str) = some NameKind.globalImplicit := by rfl)
    (he : starEach (e :: es) X.env = (false, eval e X.env) :: starEach es X.env := by rfl) (hpl : (backTo pos (starEach es X.env)).any (·.1) = false := by rfl) :
    PE X (.Call (.Name "list" p) (e :: es) [] pos) (tD G.K E (mCB fList mr)) := by
  obtain rfl := c.g
  exact ce_callT call_listA rs_list c hg hm (by decide +kernel) ha (by decide +kernel) (by decide +kernel) he hpl
theorem ce_listC (c : Cq G k E N sc X) (hm : G.mg "list" = none) (ha : PA X (e :: es) (tAD G.K E mr)) (hg : sc.names.lookup ("list" : Str) = some NameKind.globalImplicit := by rfl)
    (he : starEach (e :: es) X.env = (false, eval e X.env) :: starEach es X.env := by rfl) (hpl : (backTo pos (starEach es X.env)).any (·.1) = false := by rfl) :
    PE X (.Call (.Name "list" p) (e :: es) [] pos) (tD G.K E (mCB fListC mr)) := by
  obtain rfl := c.g
  exact ce_callT call_listA rs_listC c hg hm (by decide +kernel) ha (by decide +kernel) (by decide +kernel) he hpl
theorem ce_any (c : Cq G k E N sc X) (hm : G.mg "any" = none) (ha : PA X (e :: es) (tAD G.K E mr)) (hg : sc.names.lookup ("any" : Str) = some NameKind.globalImplicit := by rfl)
    (he : starEach (e :: es) X.env = (false, eval e X.env) :: starEach es X.env := by rfl) (hpl : (backTo pos (starEach es X.env)).any (·.1) = false := by rfl) :
    PE X (.Call (.Name "any" p) (e :: es) [] pos) (tD G.K E (mCB (fBools fun bs => bs.any id) mr)) := by
  obtain rfl := c.g
  exact ce_callB (cr_any c.calm) rs_any c hg hm (by decide +kernel) ha (by decide +kernel) (by decide +kernel) he hpl
theorem ce_all (c : Cq G k E N sc X) (hm : G.mg "all" = none) (ha : PA X (e :: es) (tAD G.K E mr)) (hg : sc.names.lookup ("all" : Str) = some NameKind.globalImplicit := by rfl)
    (he : starEach (e :: es) X.env = (false, eval e X.env) :: starEach es X.env := by rfl) (hpl : (backTo pos (starEach es X.env)).any (·.1) = false := by rfl) :
    PE X (.Call (.Name "all" p) (e :: es) [] pos) (tD G.K E (mCB (fBools fun bs => bs.all id) mr)) := by
  obtain rfl := c.g
  exact ce_callB (cr_all c.calm) rs_all c hg hm (by decide +kernel) ha (by decide +kernel) (by decide +kernel) he hpl
theorem ce_sum (c : Cq G k E N sc X) (hm : G.mg "sum" = none) (ha : PA X (e :: es) (tAD G.K E mr)) (hg : sc.names.lookup ("sum" : Str) = some NameKind.globalImplicit := by rfl)
    (he : starEach (e :: es) X.env = (false, eval e X.env) :: starEach es X.env := by rfl) (hpl : (backTo pos (starEach es X.env)).any (·.1) = false := by rfl) :
    PE X (.Call (.Name "sum" p) (e :: es) [] pos) (tD G.K E (mCB fSum mr)) := by
  obtain rfl := c.g
  exact ce_callB (cr_sum c.calm) rs_sum c hg hm (by decide +kernel) ha (by decide +kernel) (by decide +kernel) he hpl
theorem ce_int1 (c : Cq G k E N sc X) (hm : G.mg "int" = none) (ha : PA X (e :: es) (tAD G.K E mr)) (hg : sc.names.lookup ("int" : Str) = some NameKind.globalImplicit := by rfl)
    (he : starEach (e :: es) X.env = (false, eval e X.env) :: starEach es X.env := by rfl) (hpl : (backTo pos (starEach es X.env)).any (·.1) = false := by rfl) :
    PE X (.Call (.Name "int" p) (e :: es) [] pos) (tD G.K E (mCB fInt1 mr)) := by
  obtain rfl := c.g
  exact ce_callT call_int1 rs_int1 c hg hm (by decide +kernel) ha (by decide +kernel) (by decide +kernel) he hpl
theorem ce_max2 (c : Cq G k E N sc X) (hm : G.mg "max" = none) (ha : PA X (e :: es) (tAD G.K E mr)) (hg : sc.names.lookup ("max" : Str) = some NameKind.globalImplicit := by rfl)
    (he : starEach (e :: es) X.env = (false, eval e X.env) :: starEach es X.env := by rfl) (hpl : (backTo pos (starEach es X.env)).any (·.1) = false := by rfl) :
    PE X (.Call (.Name "max" p) (e :: es) [] pos) (tD G.K E (mCB fMax2 mr)) := by
  obtain rfl := c.g
  exact ce_callB (call_max2 c.calm) rs_max2 c hg hm (by decide +kernel) ha (by decide +kernel) (by decide +kernel) he hpl
theorem ce_repr (c : Cq G k E N sc X) (hm : G.mg "repr" = none) (ha : PA X (e :: es) (tAD G.K E mr)) (hg : sc.names.lookup ("repr" : Str) = some NameKind.globalImplicit := by rfl)
    (he : starEach (e :: es) X.env = (false, eval e X.env) :: starEach es X.env := by rfl) (hpl : (backTo pos (starEach es X.env)).any (·.1) = false := by rfl) :
    PE X (.Call (.Name "repr" p) (e :: es) [] pos) (tD G.K E (mCB fRepr mr)) := by
  obtain rfl := c.g
  exact ce_callB (call_repr_data c.gd (hu64 c.room)) rs_repr c hg hm (by decide +kernel) ha (by decide +kernel) (by decide +kernel) he hpl
/-! ### methods, by the context -/
theorem ce_append (c : Cq G k E N sc X) (ho : PE X o (tD G.K E mo)) (ha : PA X (e :: es) (tAD G.K E mr)) (hbase : attributeBase o "append" X.env (eval o X.env) = eval o X.env := by rfl)
    (hfew : ((backTo cpos (starEach (e :: es) X.env)).all (fun x => !x.1) && (backToKw cpos (keywordEach [] X.env)).all (fun x => x.1.isSome)
      && decide ((e :: es).length + ([] : List Keyword).length + (if ([] : List Keyword).isEmpty then 0 else 1) < 30)) = true := by rfl)
    (hline : (apos.endLine == cpos.line) = true := by rfl) (hs : starEach (e :: es) X.env = (false, eval e X.env) :: starEach es X.env := by rfl) (hplain : (backTo cpos (starEach es X.env)).any (·.1) = false := by rfl) :
    PE X (.Call (.Attribute o "append" apos) (e :: es) [] cpos) (tD G.K E (mMeth isLst fAppend mo mr)) := by
  obtain rfl := c.g
  exact ce_meth PySem.F.plainAttrs_list PySem.F.slot_list_append PySem.F.type_list_append mt_append ty_lst rs_append c ho ha hbase hfew hline hs hplain
theorem ce_popAt (c : Cq G k E N sc X) (ho : PE X o (tD G.K E mo)) (ha : PA X (e :: es) (tAD G.K E mr)) (hbase : attributeBase o "pop" X.env (eval o X.env) = eval o X.env := by rfl)
    (hfew : ((backTo cpos (starEach (e :: es) X.env)).all (fun x => !x.1) && (backToKw cpos (keywordEach [] X.env)).all (fun x => x.1.isSome)
      && decide ((e :: es).length + ([] : List Keyword).length + (if ([] : List Keyword).isEmpty then 0 else 1) < 30)) = true := by rfl)
    (hline : (apos.endLine == cpos.line) = true := by rfl) (hs : starEach (e :: es) X.env = (false, eval e X.env) :: starEach es X.env := by rfl) (hplain : (backTo cpos (starEach es X.env)).any (·.1) = false := by rfl) :
    PE X (.Call (.Attribute o "pop" apos) (e :: es) [] cpos) (tD G.K E (mMeth isLst fPopAt mo mr)) := by
  obtain rfl := c.g
  exact ce_meth PySem.F.plainAttrs_list PySem.F.slot_list_pop PySem.F.type_list_pop mt_popAt ty_lst rs_popAt c ho ha hbase hfew hline hs hplain
theorem ce_pop (c : Cq G k E N sc X) (ho : PE X o (tD G.K E mo)) (hbase : attributeBase o "pop" X.env (eval o X.env) = eval o X.env := by rfl) (hline : (apos.endLine == cpos.line) = true := by rfl) : PE X (.Call (.Attribute o "pop" apos) [] [] cpos) (tD G.K E (mMeth isLst fPop mo mNil)) := by
  obtain rfl := c.g
  exact ce_meth0 PySem.F.plainAttrs_list PySem.F.slot_list_pop PySem.F.type_list_pop mt_pop ty_lst rs_pop c ho hbase hline
theorem ce_join (c : Cq G k E N sc X) (ho : PE X o (tD G.K E mo)) (ha : PA X (e :: es) (tAD G.K E mr)) (hbase : attributeBase o "join" X.env (eval o X.env) = eval o X.env := by rfl)
    (hfew : ((backTo cpos (starEach (e :: es) X.env)).all (fun x => !x.1) && (backToKw cpos (keywordEach [] X.env)).all (fun x => x.1.isSome)
      && decide ((e :: es).length + ([] : List Keyword).length + (if ([] : List Keyword).isEmpty then 0 else 1) < 30)) = true := by rfl)
    (hline : (apos.endLine == cpos.line) = true := by rfl) (hs : starEach (e :: es) X.env = (false, eval e X.env) :: starEach es X.env := by rfl) (hplain : (backTo cpos (starEach es X.env)).any (·.1) = false := by rfl) :
    PE X (.Call (.Attribute o "join" apos) (e :: es) [] cpos) (tD G.K E (mMeth isStr fJoin mo mr)) := by
  obtain rfl := c.g
  exact ce_meth PySem.F.plainAttrs_str PySem.F.slot_str_join PySem.F.type_str_join mt_join ty_str rs_join c ho ha hbase hfew hline hs hplain
theorem ce_update (c : Cq G k E N sc X) (ho : PE X o (tD G.K E mo)) (ha : PA X (e :: es) (tAD G.K E mr)) (hbase : attributeBase o "update" X.env (eval o X.env) = eval o X.env := by rfl)
    (hfew : ((backTo cpos (starEach (e :: es) X.env)).all (fun x => !x.1) && (backToKw cpos (keywordEach [] X.env)).all (fun x => x.1.isSome)
      && decide ((e :: es).length + ([] : List Keyword).length + (if ([] : List Keyword).isEmpty then 0 else 1) < 30)) = true := by rfl)
    (hline : (apos.endLine == cpos.line) = true := by rfl) (hs : starEach (e :: es) X.env = (false, eval e X.env) :: starEach es X.env := by rfl) (hplain : (backTo cpos (starEach es X.env)).any (·.1) = false := by rfl) :
    PE X (.Call (.Attribute o "update" apos) (e :: es) [] cpos) (tD G.K E (mMeth isDic fUpdate mo mr)) := by
  obtain rfl := c.g
  exact ce_meth PySem.F.plainAttrs_dict PySem.F.slot_dict_update PySem.F.type_dict_update mt_update ty_dic rs_update c ho ha hbase hfew hline hs hplain
theorem ce_ty {T : String} {x : Str} (c : Cq G k E N sc X) (hm : G.mg x = none) (hg : sc.names.lookup x = some .globalImplicit) (hv : bootBuiltins x = some (.type T)) (hn : x ≠ "__name__" := by decide +kernel) (hd : (x == ("__debug__" : Str)) = false := by decide +kernel) : PE X (.Name x pos) (tD G.K E (mC (.ty T))) :=
  ce_bltn (v := .ty T) c hg hm hv rfl (fun _ _ => .ty T) hn hd
/-- -1, as it is written -/
theorem ce_neg {i : Int} {j : Nat} {p1 : Pos} : PE X (.UnaryOp .USub (.Constant (.int i) j p1) pos) (tD G.K E (mC (.int (-i)))) := (pe_un un_neg pe_int).imp fun σ H Q ⟨env, L, M, he, hm, q⟩ => ⟨i, rfl, q.end_ hm (.int _)⟩
end
end Ly

namespace Ly
open PySem PySem.Spec PyProof.Rows L2
def visB (sc : Scope) (x : Str) : Bool := match sc.names.lookup x with
  | some .local => true
  | some .cell => true
  | some .free => true
  | _ => false
def locB (sc : Scope) (x : Str) : Bool := match sc.names.lookup x with
  | some .local => true
  | some .cell => true
  | _ => false
theorem vis_by {sc : Scope} {x : Str} (h : visB sc x = true) : Vis sc x := by
  unfold visB at h
  split at h
  · next e => exact .inl e
  · next e => exact .inr (.inl e)
  · next e => exact .inr (.inr e)
  · exact nomatch h
theorem loc_by {sc : Scope} {x : Str} (h : locB sc x = true) : Loc sc x := by
  unfold locB at h
  split at h
  · next e => exact .inl e
  · next e => exact .inr e
  · exact nomatch h
theorem fnT {X : Cx} {x : Str} {sc : Scope} (h : X.fn = fun _ => true) : X.fn x = true ∨ sc.names.lookup x = some NameKind.local := .inl (by rw [h])
theorem fnC {X : Cx} {x : Str} {sc scope : Scope} (h : X.fn = (fun x => scope.names.lookup x == some .cell)) (z : (scope.names.lookup x == some .cell) = true ∨ sc.names.lookup x = some NameKind.local) : X.fn x = true ∨ sc.names.lookup x = some NameKind.local := by
  rcases z with z | z
  · exact .inl (by rw [h]; exact z)
  · exact .inr z
theorem sw_no {elt : Expr} {gs : List Comprehension} {scope : Scope} {pos py : Pos} {y : Str} {l : Nat} {env : PySem.Env} (hy : env.scope.names.lookup y = some .cell) : swapsWith (.ListComp elt gs scope pos) (some (.Name y py)) l env = pure false := by
  have ky : env.kindOf y = some .cell := hy
  unfold swapsWith
  simp only [ky, Expr.pos]
  rw [show (some NameKind.cell == some NameKind.local) = false from rfl, Bool.and_false, Bool.false_and, Bool.false_and]
theorem sw_noD {kx vx : Expr} {gs : List Comprehension} {scope : Scope} {pos py : Pos} {y : Str} {l : Nat} {env : PySem.Env} (hy : env.scope.names.lookup y = some .cell) : swapsWith (.DictComp kx vx gs scope pos) (some (.Name y py)) l env = pure false := by
  have ky : env.kindOf y = some .cell := hy
  unfold swapsWith
  simp only [ky, Expr.pos]
  rw [show (some NameKind.cell == some NameKind.local) = false from rfl, Bool.and_false, Bool.false_and, Bool.false_and]
section
variable {G : Gd} {k : Nat} {E : XK} {N : List Str} {sc : Scope} {X : Cx} {pos spos py : Pos} {i : Nat} {y : Str} {elt kx vx : Expr} {gs : List Comprehension} {scope : Scope} {m : ME}
/-- name = [..] where a comprehension captures the name -/
theorem cs_cellL (c : Cq G k E N sc X) (hf : X.fn = fun _ => true) (hy : N[i]? = some y) (hc : sc.names.lookup y = some NameKind.cell) (h : PE X (.ListComp elt gs scope pos) (tD G.K E m)) : PS X (.Assign [.Name y py] (.ListComp elt gs scope pos) spos) (sD G.K E (mAsg m (gN i))) :=
  cs_set c hy (.inr hc) (fnT hf) h (sw_no (by rw [c.scq]; exact hc))
theorem cs_cellD (c : Cq G k E N sc X) (hf : X.fn = fun _ => true) (hy : N[i]? = some y) (hc : sc.names.lookup y = some NameKind.cell) (h : PE X (.DictComp kx vx gs scope pos) (tD G.K E m)) : PS X (.Assign [.Name y py] (.DictComp kx vx gs scope pos) spos) (sD G.K E (mAsg m (gN i))) :=
  cs_set c hy (.inr hc) (fnT hf) h (sw_noD (by rw [c.scq]; exact hc))
end
section
variable {G : Gd} {k : Nat} {N ps : List Str} {sc : Scope} {x qual : Str} {params : Arguments} {body : List Stmt} {kws : List (Str × V)} {fd : FuncData} {m : MS}
theorem cal_D (F : FunD G.K x qual params body sc [] kws (He.ga G.K x) fd) (S : FnScope N ps sc) (gl : G.mg x = some (.ref (He.ga G.K x)))
    (h : ∀ (kV doc pm : Value) (an : Option Addr) (cdv ct : Value) (us : List Value), us.length = ps.length → bindArgs (PySem.W.fnOf x qual params body sc .none kV doc pm an cdv ct) ⟨us, []⟩ = pure (ps.zip us))
    (hb : ∀ (X : Cx) (E : XK), Cq G k E N sc X → X.fn = (fun _ => true) → PSs X body (sD G.K E m)) : Cal G (k + 1) x ps (callD N.length m) := ⟨⟨fd, fn_okD F S hb, F.bindsN h⟩, F.kp, gl⟩
theorem cal_K (F : FunD G.K x qual params body sc [] kws (He.ga G.K x) fd) (S : FnScope N ps sc) (gl : G.mg x = some (.ref (He.ga G.K x)))
    (h : ∀ (kV doc pm : Value) (an : Option Addr) (cdv ct : Value) (us : List Value), us.length = ps.length → bindArgs (PySem.W.fnOf x qual params body sc .none kV doc pm an cdv ct) ⟨us, []⟩ = pure (ps.zip us))
    (hb : ∀ (X : Cx) (E : XK), Cq G k E N sc X → X.fn = (fun _ => true) → PSs X body (sD G.K E m)) : Cal G (k + 1) x ps (callK N.length m) := ⟨⟨fd, fn_okK F S hb, F.bindsN h⟩, F.kp, gl⟩
end
end Ly

namespace Ly
open PySem PySem.Spec PyProof.Rows L2
/-! ### a law's end: its def over the script's list gives True -/
def scriptD (ns : List Int) : D := .scr (ns.map .int)
theorem ints_isL {K : PySem.W.Frag} {L : Wd} {H : Hp} : ∀ ns : List Int, IsL K L H (ns.map .int) (ns.map V.int)
  | [] => .nil
  | n :: ns => .cons (.int n) (ints_isL ns)
/-- the script's list alone is seen, unless it belongs to the written part -/
def only (K : PySem.W.Frag) (a : Addr) (o : Obj) (ns : List Int) : Hp := fun b => if b = a ∧ K.lookup a = none then some (.frz o (.lst (ns.map V.int))) else none
theorem only_inv {K : PySem.W.Frag} {a b : Addr} {o : Obj} {ns : List Int} {u : HO} (h : only K a o ns b = some u) : b = a ∧ K.lookup a = none ∧ u = .frz o (.lst (ns.map V.int)) := by
  unfold only at h
  split at h
  · next z =>
    cases h
    exact ⟨z.1, z.2, rfl⟩
  · cases h
theorem only_none {K : PySem.W.Frag} {a b : Addr} {o : Obj} {ns : List Int} (h : ¬ (b = a ∧ K.lookup a = none)) : only K a o ns b = none := if_neg h
section
variable {P : Program} {w : World} {K : PySem.W.Frag} {mg mb : Str → Option Value} {k : Nat} {a : Addr} {x y : Str} {s : Shared} {vs : List Value} {ns : List Int} {f : MF}
theorem script_is {o : Obj} (ho : o = { cls := .type "list", data := .seq vs.toArray }) (KX : K.In s.heap) (ha : s.heap.get? a = some o) (hi : IntsAre vs ns) (hl : ns.length ≤ sizeLine) : Is K ⟨[], []⟩ (only K a o ns) (scriptD ns) (.ref a) := by
  cases q : K.lookup a with
  | none => exact .scr (.inr ⟨o, if_pos ⟨rfl, q⟩⟩) ⟨nofun, nofun⟩ (ints_isL ns)
  | some o' =>
    have e := (KX a o' q).symm.trans ha
    cases e
    subst ho
    refine .scrK ⟨_, vs.toArray, _, q, rfl, rfl, rfl, ?_, by simpa using vals_ints hi⟩ (ints_isL ns)
    rw [List.size_toArray, hi.length]
    exact hl
/-- the call -/
theorem law_end (KX : K.In s.heap) (hns : s.heap.Ns mainGlobals mg) (hb : s.heap.Ns builtinsNs mb) (hbb : ∀ z : Str, z ≠ "__name__" → mb z = bootBuiltins z) (hlim : s.heap.NoLimit) (hg : s.gens = #[])
    (ha : s.heap.get? a = some { cls := .type "list", data := .seq vs.toArray }) (hi : IntsAre vs ns) (hl : ns.length ≤ sizeLine) (hr : Room k callerA)
    (F : ∀ base : Heap, K.In base → base.Ns mainGlobals mg → Cal ⟨P, w, K, mg, base⟩ k x [y] f) (ok : ∃ M', f [scriptD ns] [] = .ok (.bl true) M') :
    codeAny (model P w) callerA (.call (.ref (He.ga K x)) ⟨[.ref a], []⟩) (fun r s' => r = .ok (.ret (.bool true)) ∧ OldK s.heap s'.heap ∧ s'.os = s.os ∧ AllBare s'.gens) s := by
  obtain ⟨o, ho⟩ : ∃ o : Obj, o = { cls := .type "list", data := .seq vs.toArray } := ⟨_, rfl⟩
  rw [← ho] at ha
  obtain ⟨H, hH⟩ : ∃ H, H = only K a o ns := ⟨_, rfl⟩
  have good : HOk P w H s.heap := fun b u z => by
    rw [hH] at z
    obtain ⟨rfl, _, rfl⟩ := only_inv z
    exact ⟨ha, by rw [List.length_map]; exact hl, vs, _, vals_ints hi, by rw [ha, ho]⟩
  have dictFree : ∀ {b : Addr} {m : Str → Option Value}, s.heap.Ns b m → (hidT s.heap H).Ns b m := fun {b m} ⟨ob, es, ep, e, d, r⟩ => by
    refine ⟨ob, es, ep, hidT_get e ?_, d, r⟩
    rw [hH]
    refine only_none fun z => ?_
    obtain ⟨rfl, _⟩ := z
    rw [ha] at e
    cases e
    rw [ho] at d
    cases (show Data.seq vs.toArray _ = Data.dict es ep from d)
  have written : K.In (hidT s.heap H) := fun b ob e => hidT_get (KX b ob e) (by
    rw [hH]
    refine only_none fun z => ?_
    obtain ⟨rfl, z⟩ := z
    rw [z] at e
    cases e)
  have ground : Mod K mg (hidT s.heap H) := ⟨written, dictFree hns, ⟨mb, dictFree hb, hbb⟩, let ⟨mc, h1, h2⟩ := hlim; ⟨mc, dictFree h1, h2⟩⟩
  have env0 : Env0 P w K mg (hidT s.heap H) callerA [] s H := ⟨rfl, ground, fun b ob e => of_hidT e, Nat.le_of_eq (hidT_size _ _), trivial, fun b z => (nomatch (show b ∈ ([] : List Addr) from z)), good, .of_eq hg⟩
  obtain ⟨fd, run, bind⟩ := (F _ written (dictFree hns)).ex
  obtain ⟨M', ok⟩ := ok
  have given := bind s [.ref a] KX rfl
  have want : spD K 1 f [.ref a] H (fun v _ => v = .bl true) fun _ _ _ => False := by
    refine ⟨[scriptD ns], ⟨[], []⟩, [], rfl, .cons (by rw [hH]; exact script_is ho KX ha hi hl) .nil, ⟨rfl, .nil, fun n b c e => (nomatch (show (none : Option Addr) = some b from e)), fun b z => (nomatch (show b ∈ ([] : List Addr) from z))⟩, ?_⟩
    rw [ok]
    intro L' H' v _ _ r
    cases r
    rfl
  refine codeAny_mono (run callerA [] s H ⟨[.ref a], []⟩ [.ref a] [.ref a] _ _ hr rfl env0 given (.cons rfl .nil) rfl want) fun r s' out => ?_
  match r, out with
  | .error e, out =>
    obtain ⟨_, _, _, _, _, _, _, _, _, _, _, _, no⟩ := out
    exact no.elim
  | .ok (.ret u), out =>
    obtain ⟨v, H', os, bare, un, good', rv, rfl⟩ := out
    obtain rfl : u = Value.bool true := rv
    refine ⟨rfl, OldK.of_keep fun b ob e => ?_, os, bare⟩
    by_cases z : b = a ∧ K.lookup a = none
    · obtain ⟨rfl, z⟩ := z
      rw [ha] at e
      cases e
      exact (good' b _ (un.frzs b o _ (by rw [hH]; exact if_pos ⟨rfl, z⟩))).1
    · exact un.keep b ob e (by rw [hH]; exact only_none z) (fun z => nomatch (show b ∈ ([] : List Addr) from z)) (fun z => nomatch (show b ∈ ([] : List Addr) from z))
end
/-- a law over a head by facts: the def over data answers True at every script -/
theorem walk_data {l : PySem.W.OpenLaw} {n k : Nat} {q : Program} {loose : List Str} {XP : (Str → Option Value) → Heap → Prop} {YP : World → Heap → Prop} {d : DefRec} {x y : Str} {f : MF}
    (hn : l.most = some n) (hn2 : n ≤ sizeLine) (hdf : d.params.defaults = []) (hr : Room k callerA)
    (F : ∀ (w : World) (mg : Str → Option Value) (fa : Addr) (h : Heap), YP w h → h.Ns mainGlobals mg → mg d.name = some (.ref fa) →
      ∃ K : PySem.W.Frag, K.In h ∧ fa = He.ga K x ∧ ∀ base : Heap, K.In base → base.Ns mainGlobals mg → Cal ⟨l.prog, w, K, mg, base⟩ k x [y] f)
    (ok : ∀ ns : List Int, ns.length ≤ n → (∀ z ∈ ns, Builtin.Int.intBits z ≤ 1048576) → ∃ M', f [scriptD ns] [] = .ok (.bl true) M') :
    PySem.W.WalkO q loose XP YP l.row.toRowW d [] (fun f vs => PySem.call f vs) := by
  refine Att.attach_callB hn hdf fun w s₀ s₁ mg mb fa o pm cd doc a vs ns G Y ho hd hcd hmg hobj hints hlen hbits hg => ?_
  obtain ⟨K, KX, rfl, C⟩ := F w mg fa _ Y G.T.g hmg
  exact law_end KX G.T.g G.T.b G.T.builtins G.T.nolimit hg hobj hints (Nat.le_trans hlen hn2) hr C (ok ns hlen hbits)
end Ly

namespace Ly
open PySem PySem.Spec PyProof.Rows L2
/-! ### reckoning with the functions: what a result must satisfy -/
def Go {α : Type} (r : Res α) (Q : α → Mem → Prop) : Prop := match r with
  | .ok a M => Q a M
  | _ => False
/-- Q: it goes on; R: it returns -/
def GoS (r : ResS) (Q : Env → Mem → Prop) (R : D → Mem → Prop) : Prop := match r with
  | .nx e M => Q e M
  | .rt d M => R d M
  | _ => False
theorem Go.ok {α : Type} {r : Res α} {Q : α → Mem → Prop} (h : Go r Q) : ∃ a M, r = .ok a M ∧ Q a M := by
  cases r with
  | ok a M => exact ⟨a, M, rfl, h⟩
  | exc x M => exact h.elim
  | bad => exact h.elim
theorem Go.of {α : Type} {r : Res α} {Q : α → Mem → Prop} {a : α} {M : Mem} (e : r = .ok a M) (h : Q a M) : Go r Q := by
  rw [e]
  exact h
theorem Go.imp {α : Type} {r : Res α} {Q Q' : α → Mem → Prop} (h : Go r Q) (i : ∀ a M, Q a M → Q' a M) : Go r Q' := by
  cases r with
  | ok a M => exact i a M h
  | exc x M => exact h
  | bad => exact h
theorem GoS.imp {r : ResS} {Q Q' : Env → Mem → Prop} {R R' : D → Mem → Prop} (h : GoS r Q R) (i : ∀ a M, Q a M → Q' a M) (j : ∀ a M, R a M → R' a M) : GoS r Q' R' := by
  cases r with
  | nx a M => exact i a M h
  | rt a M => exact j a M h
  | _ => exact h
section
variable {α β : Type} {Q : D → Mem → Prop} {QB : Bool → Mem → Prop} {QL : List D → Mem → Prop} {S : Env → Mem → Prop} {R : D → Mem → Prop} {env : Env} {M : Mem} {a b o : ME} {t u : MT} {r : MA} {s s' : MS} {g : GD}
theorem go_ok {Q : α → Mem → Prop} {x : α} : Go (.ok x M) Q = Q x M := id rfl
theorem go_bad {Q : α → Mem → Prop} : Go (.bad : Res α) Q = False := id rfl
theorem go_bind {Q : β → Mem → Prop} {r : Res α} {f : α → Mem → Res β} : Go (r.bind f) Q = Go r fun x M1 => Go (f x M1) Q := by
  cases r <;> rfl
theorem go_bindS {r : Res α} {f : α → Mem → ResS} : GoS (r.bindS f) S R = Go r fun x M1 => GoS (f x M1) S R := by
  cases r <;> rfl
theorem go_ite {Q : α → Mem → Prop} {c : Prop} [Decidable c] {x y : Res α} : Go (if c then x else y) Q = if c then Go x Q else Go y Q := by
  split <;> rfl
theorem go_iteS {c : Prop} [Decidable c] {x y : ResS} : GoS (if c then x else y) S R = if c then GoS x S R else GoS y S R := by
  split <;> rfl
theorem go_nx : GoS (.nx env M) S R = S env M := id rfl
theorem go_rt {d : D} : GoS (.rt d M) S R = R d M := id rfl
theorem go_var {i : Nat} : Go (mVar i env M) Q = match env[i]? with
    | some (some d) => Q d M
    | _ => False := by
  unfold mVar
  generalize env[i]? = x
  cases x with
  | none => rfl
  | some y => cases y <;> rfl
theorem go_c {d : D} : Go (mC d env M) Q = Q d M := id rfl
theorem go_bin {op : D → D → Mem → Res D} : Go (mBin op a b env M) Q = Go (a env M) fun d M1 => Go (b env M1) fun e M2 => Go (op d e M2) Q := by
  unfold mBin
  rw [go_bind]
  congr 1
  funext d M1
  rw [go_bind]
theorem go_un {op : D → Mem → Res D} : Go (mUn op a env M) Q = Go (a env M) fun d M1 => Go (op d M1) Q := go_bind
theorem go_asB {x : Res D} : Go (asB x) QB = Go x fun d M1 => ∃ c, d = .bl c ∧ QB c M1 := by
  unfold asB
  rw [go_bind]
  congr 1
  funext d M1
  cases d <;> simp [Go]
theorem go_test : Go (mTest a env M) QB = Go (a env M) fun d M1 => ∃ c, d = .bl c ∧ QB c M1 := go_asB
theorem go_andT : Go (mAndT t u env M) QB = Go (t env M) fun c M1 => if c then Go (u env M1) QB else QB false M1 := by
  unfold mAndT
  rw [go_bind]
  congr 1
  funext c M1
  cases c <;> rfl
theorem go_orT : Go (mOrT t u env M) QB = Go (t env M) fun c M1 => if c then QB true M1 else Go (u env M1) QB := by
  unfold mOrT
  rw [go_bind]
  congr 1
  funext c M1
  cases c <;> rfl
theorem go_notT : Go (mNotT t env M) QB = Go (t env M) fun c M1 => QB (!c) M1 := go_bind
theorem go_yes : Go (mYes env M) QB = QB true M := id rfl
theorem go_andV : Go (mAndV a b env M) Q = Go (a env M) fun d M1 => ∃ c, d = .bl c ∧ if c then Go (b env M1) Q else Q (.bl false) M1 := by
  unfold mAndV
  rw [go_bind]
  congr 1
  funext d M1
  cases d <;> simp [Go]
  case bl c => cases c <;> simp
theorem go_if : Go (mIf t a b env M) Q = Go (t env M) fun c M1 => if c then Go (a env M1) Q else Go (b env M1) Q := by
  unfold mIf
  rw [go_bind]
  congr 1
  funext c M1
  cases c <;> rfl
theorem go_nil : Go (mNil env M) QL = QL [] M := id rfl
theorem go_cons : Go (mCons a r env M) QL = Go (a env M) fun d M1 => Go (r env M1) fun ds M2 => QL (d :: ds) M2 := by
  unfold mCons
  rw [go_bind]
  congr 1
  funext d M1
  rw [go_bind]
  rfl
theorem go_tup : Go (mTup r env M) Q = Go (r env M) fun ds M1 => ds.length ≤ 100000 ∧ Q (.tup ds) M1 := by
  unfold mTup
  rw [go_bind]
  congr 1
  funext d M1
  rw [go_ite]
  simp [szOk, Go]
theorem go_lst : Go (mLst r env M) Q = Go (r env M) fun ds M1 => ds.length ≤ 100000 ∧ Q (.lst ds) M1 := by
  unfold mLst
  rw [go_bind]
  congr 1
  funext d M1
  rw [go_ite]
  simp [szOk, Go]
theorem go_lstC : Go (mLstC r env M) Q = Go (r env M) fun ds M1 => ds.length ≤ 100000 ∧ Q (.ref M1.length) (M1 ++ [.lst ds]) := by
  unfold mLstC
  rw [go_bind]
  congr 1
  funext d M1
  rw [go_ite]
  simp [szOk, Go]
theorem go_cb {f : MF} : Go (mCB f r env M) Q = Go (r env M) fun ds M1 => Go (f ds M1) Q := go_bind
theorem go_call {n : Nat} {f : MF} : Go (mCall n f r env M) Q = Go (r env M) fun ds M1 => ds.length = n ∧ Go (f ds M1) Q := by
  unfold mCall
  rw [go_bind]
  congr 1
  funext d M1
  rw [go_ite]
  simp [Go]
theorem go_meth {ty : D → Mem → Bool} {f : MM} : Go (mMeth ty f o r env M) Q = Go (o env M) fun d M1 => ty d M1 = true ∧ Go (r env M1) fun ds M2 => Go (f d ds M2) Q := by
  unfold mMeth
  rw [go_bind]
  congr 1
  funext d M1
  rw [go_ite, go_bind]
  simp [Go]
theorem go_noPart {Q : Option Int → Mem → Prop} : Go (mNoPart env M) Q = Q none M := id rfl
theorem go_part {Q : Option Int → Mem → Prop} : Go (mPart a env M) Q = Go (a env M) fun d M1 => ∃ i, d = .int i ∧ Q (some i) M1 := by
  unfold mPart
  rw [go_bind]
  congr 1
  funext d M1
  cases d <;> simp [Go]
theorem go_sl {lo hi : MO} : Go (mSl a lo hi env M) Q = Go (a env M) fun d M1 => Go (lo env M1) fun l M2 => Go (hi env M2) fun h M3 => Go (opSl d l h M3) Q := by
  unfold mSl
  rw [go_bind]
  congr 1
  funext d M1
  rw [go_bind]
  congr 1
  funext l M2
  rw [go_bind]
theorem go_get : Go (mGet o a b env M) Q = Go (o env M) fun d M1 => isDic d M1 = true ∧ Go (a env M1) fun y M2 => Go (b env M2) fun z M3 => Go (opGet d y z M3) Q := by
  unfold mGet
  rw [go_bind]
  congr 1
  funext d M1
  rw [go_ite, go_bind]
  simp only [go_bind]
  simp [Go]
/-! statements -/
theorem go_seq : GoS (mSeq s s' env M) S R = GoS (s env M) (fun e1 M1 => GoS (s' e1 M1) S R) R := by
  unfold mSeq
  cases s env M <;> rfl
theorem go_next : GoS (mNext env M) S R = S env M := id rfl
theorem go_drop : GoS (mDrop a env M) S R = Go (a env M) fun _ M1 => S env M1 := go_bindS
theorem go_ret : GoS (mRet a env M) S R = Go (a env M) R := go_bindS
theorem go_retN : GoS (mRetN env M) S R = R .non M := id rfl
theorem go_ifS : GoS (mIfS t s s' env M) S R = Go (t env M) fun c M1 => if c then GoS (s env M1) S R else GoS (s' env M1) S R := by
  unfold mIfS
  rw [go_bindS]
  congr 1
  funext c M1
  cases c <;> rfl
theorem go_set {i : Nat} : GoS (mAsg a (gN i) env M) S R = Go (a env M) fun d M1 => S (env.set i (some d)) M1 := go_bindS
theorem go_asg : GoS (mAsg a g env M) S R = Go (a env M) fun d M1 => ∃ e1, g.f d env = some e1 ∧ S e1 M1 := by
  unfold mAsg
  rw [go_bindS]
  congr 1
  funext d M1
  cases g.f d env <;> simp [GoS]
theorem go_setItem : GoS (mSetItem a b o env M) S R = Go (a env M) fun v M1 => Go (b env M1) fun d M2 => Go (o env M2) fun i M3 => ∃ M4, setM M3 d i v = some M4 ∧ S env M4 := by
  unfold mSetItem
  rw [go_bindS]
  congr 1
  funext v M1
  rw [go_bindS]
  congr 1
  funext d M2
  rw [go_bindS]
  congr 1
  funext i M3
  cases setM M3 d i v <;> simp [GoS]
theorem go_for {mi : MI} : GoS (mFor mi g s env M) S R = Go (mi env M) fun t M1 => GoS (loopS g s t.chk t.items env M1) S R := go_bindS
theorem go_lc {mi : MI} {el : ME} {vs : List Nat} : Go (mLc mi g t el vs env M) Q = Go (mi env M) fun it M1 => Go (compL g t el it.chk (wipeD env vs) it.items [] M1) fun ds M2 => Q (.lst ds) M2 := by
  unfold mLc
  rw [go_bind]
  congr 1
  funext it M1
  rw [go_bind]
  rfl
theorem go_dc {kp : Bool} {mi : MI} {ek el : ME} {vs : List Nat} : Go (mDc kp mi g t ek el vs env M) Q = Go (mi env M) fun it M1 => Go (compD g t ek el it.chk (wipeD env vs) it.items [] M1) fun ds M2 => Go (bdD kp ds M2) Q := by
  unfold mDc
  rw [go_bind]
  congr 1
  funext it M1
  rw [go_bind]
theorem go_iter {Q : Itm → Mem → Prop} : Go (mIter a env M) Q = Go (a env M) fun d M1 => ∃ t, itemsOf d M1 = some t ∧ Q t M1 := by
  unfold mIter
  rw [go_bind]
  congr 1
  funext d M1
  cases itemsOf d M1 <;> simp [Go]
theorem go_enum {Q : Itm → Mem → Prop} : Go (mEnum a env M) Q = Go (a env M) fun d M1 => ∃ t, enumOf d M1 = some t ∧ Q t M1 := by
  unfold mEnum
  rw [go_bind]
  congr 1
  funext d M1
  cases enumOf d M1 <;> simp [Go]
theorem go_rng {Q : Itm → Mem → Prop} {f : List D → Mem → Res Itm} : Go (mRng f r env M) Q = Go (r env M) fun ds M1 => Go (f ds M1) Q := go_bind
theorem go_iteC {Q : α → Mem → Prop} {c : Prop} {i : Decidable c} {x : Res α} : Go (@ite _ c i x .bad) Q = (c ∧ Go x Q) := by
  by_cases h : c
  · rw [if_pos h]
    exact propext ⟨fun z => ⟨h, z⟩, fun z => z.2⟩
  · rw [if_neg h]
    exact propext ⟨fun z => z.elim, fun z => h z.1⟩
theorem go_rng1 {Q : Itm → Mem → Prop} {j : Int} : Go (rng1 [.int j] M) Q = (rngOk j ∧ Q ⟨(List.range j.toNat).map fun i => .int (0 + (i : Nat)), fun _ => True⟩ M) := go_iteC
theorem go_rng2 {Q : Itm → Mem → Prop} {i j : Int} : Go (rng2 [.int i, .int j] M) Q = ((rngOk i ∧ rngOk j) ∧ Q ⟨(List.range (j - i).toNat).map fun n => .int (i + (n : Nat)), fun _ => True⟩ M) := go_iteC
theorem go_rng3 {Q : Itm → Mem → Prop} {i j c : Int} : Go (rng3 [.int i, .int j, .int c] M) Q = ((rngOk i ∧ rngOk j ∧ c = -1) ∧ Q ⟨(List.range (i - j).toNat).map fun n => .int (i + (n : Nat) * -1), fun _ => True⟩ M) := go_iteC
theorem go_disp {kp : Bool} {ms : List (ME × ME)} : Go (mDisp kp ms env M) Q = Go (mPairs ms env M) fun ps M1 => ∃ ks, keysOf ps = some ks ∧ ks.length ≤ 15 ∧ Go (bdD kp (mergeD [] ks) M1) Q := by
  unfold mDisp
  rw [go_bind]
  congr 1
  funext ps M1
  cases keysOf ps with
  | none => simp [Go]
  | some ks =>
    simp only [go_ite]
    simp [Go]
theorem go_pnil {Q : List (D × D) → Mem → Prop} : Go (mPairs [] env M) Q = Q [] M := id rfl
theorem go_pcons {Q : List (D × D) → Mem → Prop} {ms : List (ME × ME)} : Go (mPairs ((a, b) :: ms) env M) Q = Go (a env M) fun x M1 => Go (b env M1) fun y M2 => Go (mPairs ms env M2) fun ps M3 => Q ((x, y) :: ps) M3 := by
  rw [show mPairs ((a, b) :: ms) env M = (a env M).bind fun x M1 => (b env M1).bind fun y M2 => (mPairs ms env M2).bind fun ps M3 => .ok ((x, y) :: ps) M3 from rfl, go_bind]
  congr 1
  funext x M1
  rw [go_bind]
  congr 1
  funext y M2
  rw [go_bind]
  rfl
theorem go_bdT {kvs : List (Key × D)} : Go (bdD true kvs M) Q = Q (.ref M.length) (M ++ [.dic kvs]) := id rfl
theorem go_bdF {kvs : List (Key × D)} : Go (bdD false kvs M) Q = Q (.dic kvs) M := id rfl
/-! defs -/
theorem go_callD {n : Nat} {ds : List D} : Go (callD n s ds M) Q = GoS (s (startD n ds) M) (fun _ M' => Go (finish M .non M') Q) fun d M' => Go (finish M d M') Q := by
  unfold callD
  cases s (startD n ds) M <;> try rfl
  case exc x M' =>
    show Go (finishX M x M') Q = False
    unfold finishX
    rw [go_iteC]
    refine propext ⟨fun z => ?_, fun z => z.elim⟩
    have z2 := z.2
    split at z2 <;> exact z2
theorem go_callK {n : Nat} {ds : List D} : Go (callK n s ds M) Q = GoS (s (startD n ds) M) (fun _ M' => Q .non M') Q := by
  unfold callK
  cases s (startD n ds) M <;> rfl
theorem go_finish {d d' : D} {M' : Mem} (h : Laid M M') (e : frzD M.length M' 20 d = some d') (q : Q d' (M'.take M.length)) : Go (finish M d M') Q := by
  unfold finish
  rw [if_pos h, e]
  exact q
/-! loops -/
theorem go_loop {chk : Mem → Prop} (I : List D → Env → Mem → Prop) (step : ∀ d ds env M, I (d :: ds) env M → chk M ∧ ∃ e1, g.f d env = some e1 ∧ GoS (s e1 M) (fun e2 M2 => I ds e2 M2) R) (done : ∀ env M, I [] env M → chk M ∧ S env M) :
    ∀ (ds : List D) (env : Env) (M : Mem), I ds env M → GoS (loopS g s chk ds env M) S R
  | [], env, M, h => by
    obtain ⟨h1, h2⟩ := done env M h
    unfold loopS
    rw [if_pos h1]
    exact h2
  | d :: ds, env, M, h => by
    obtain ⟨h1, e1, h2, h3⟩ := step d ds env M h
    unfold loopS
    rw [if_pos h1, h2]
    show GoS (ResS.loop (s e1 M) fun e1 M1 => loopS g s chk ds e1 M1) S R
    cases q : s e1 M with
    | nx e M =>
      rw [q] at h3
      exact go_loop I step done ds e M h3
    | rt d M =>
      rw [q] at h3
      exact h3
    | _ =>
      rw [q] at h3
      exact h3.elim
theorem go_comp {chk : Mem → Prop} {el : ME} {Q : List D → Mem → Prop} (I : List D → List D → Mem → Prop) (step : ∀ d ds acc M, I (d :: ds) acc M → chk M ∧ ∃ e1, g.f d env = some e1 ∧ Go (t e1 M) fun c M1 => if c then Go (el e1 M1) fun y M2 => acc.length + 1 ≤ 100000 ∧ I ds (acc ++ [y]) M2 else I ds acc M1)
    (done : ∀ acc M, I [] acc M → chk M ∧ Q acc M) : ∀ (ds acc : List D) (M : Mem), I ds acc M → Go (compL g t el chk env ds acc M) Q
  | [], acc, M, h => by
    obtain ⟨h1, h2⟩ := done acc M h
    unfold compL
    rw [if_pos h1]
    exact h2
  | d :: ds, acc, M, h => by
    obtain ⟨h1, e1, h2, h3⟩ := step d ds acc M h
    unfold compL
    rw [if_pos h1, h2]
    obtain ⟨c, M1, q, h3⟩ := h3.ok
    simp only [q, noX, Res.bind]
    cases c with
    | false => exact go_comp I step done ds acc M1 h3
    | true =>
      rw [if_pos rfl] at h3 ⊢
      obtain ⟨y, M2, q2, h4, h5⟩ := h3.ok
      simp only [q2, noX, Res.bind]
      rw [if_pos (show szOk (acc.length + 1) = true from decide_eq_true h4)]
      exact go_comp I step done ds (acc ++ [y]) M2 h5
theorem go_compD {chk : Mem → Prop} {ek el : ME} {Q : List (Key × D) → Mem → Prop} (I : List D → List (Key × D) → Mem → Prop) (step : ∀ d ds acc M, I (d :: ds) acc M → chk M ∧ ∃ e1, g.f d env = some e1 ∧ Go (t e1 M) fun c M1 => if c then Go (ek e1 M1) fun x M2 => Go (el e1 M2) fun y M3 => ∃ ky, keyOf x = some ky ∧ acc.length + 1 ≤ 100000 ∧ I ds (putD acc ky y) M3 else I ds acc M1)
    (done : ∀ acc M, I [] acc M → chk M ∧ Q acc M) : ∀ (ds : List D) (acc : List (Key × D)) (M : Mem), I ds acc M → Go (compD g t ek el chk env ds acc M) Q
  | [], acc, M, h => by
    obtain ⟨h1, h2⟩ := done acc M h
    unfold compD
    rw [if_pos h1]
    exact h2
  | d :: ds, acc, M, h => by
    obtain ⟨h1, e1, h2, h3⟩ := step d ds acc M h
    unfold compD
    rw [if_pos h1, h2]
    obtain ⟨c, M1, q, h3⟩ := h3.ok
    simp only [q, noX, Res.bind]
    cases c with
    | false => exact go_compD I step done ds acc M1 h3
    | true =>
      rw [if_pos rfl] at h3 ⊢
      obtain ⟨x, M2, q2, h4⟩ := h3.ok
      obtain ⟨y, M3, q3, ky, hk, h5, h6⟩ := h4.ok
      simp only [q2, q3, noX, Res.bind, hk]
      rw [if_pos (show szOk (acc.length + 1) = true from decide_eq_true h5)]
      exact go_compD I step done ds (putD acc ky y) M3 h6
end
end Ly

namespace Ly
open PySem PySem.Spec PyProof.Rows L2
section
variable {α β : Type} {Q : D → Mem → Prop} {M : Mem} {i j : Int} {x y : Str} {ds es : List D}
/-! ### operators over data -/
theorem go_opt {Q : β → Mem → Prop} {o : Option α} {f : α → Res β} : Go (match o with | some a => f a | none => .bad) Q = ∃ a, o = some a ∧ Go (f a) Q := by
  cases o <;> simp [Go]
theorem go_addI : Go (opAdd (.int i) (.int j) M) Q = Q (.int (i + j)) M := id rfl
theorem go_addS : Go (opAdd (.str x) (.str y) M) Q = (szOk (x.length + y.length) = true ∧ Q (.str (x ++ y)) M) := go_iteC
theorem go_addT : Go (opAdd (.tup ds) (.tup es) M) Q = (szOk (ds.length + es.length) = true ∧ Q (.tup (ds ++ es)) M) := go_iteC
theorem go_addL : Go (opAdd (.lst ds) (.lst es) M) Q = (szOk (ds.length + es.length) = true ∧ Q (.lst (ds ++ es)) M) := go_iteC
theorem go_subI : Go (opSub (.int i) (.int j) M) Q = Q (.int (i - j)) M := id rfl
theorem go_mulI : Go (opMul (.int i) (.int j) M) Q = (CMulW i j ∧ Q (.int (i * j)) M) := go_iteC
theorem go_mulL : Go (opMul (.lst ds) (.int j) M) Q = ((0 ≤ j ∧ j ≤ 100000 ∧ szOk (ds.length * j.toNat) = true) ∧ Q (.lst (List.replicate j.toNat ds).flatten) M) := go_iteC
theorem go_modI : Go (opMod (.int i) (.int j) M) Q = (j ≠ 0 ∧ Q (.int (i.fmod j)) M) := go_iteC
theorem go_fdivI : Go (opFdiv (.int i) (.int j) M) Q = (CDivN i j ∧ Q (.int (i.fdiv j)) M) := go_iteC
theorem go_powI : Go (opPow (.int i) (.int j) M) Q = (CPow i j ∧ Q (.int (i ^ j.toNat)) M) := go_iteC
theorem go_ltI : Go (opLt (.int i) (.int j) M) Q = Q (.bl (decide (i < j))) M := id rfl
theorem go_leI : Go (opLe (.int i) (.int j) M) Q = Q (.bl (decide (i ≤ j))) M := id rfl
theorem go_gtI : Go (opGt (.int i) (.int j) M) Q = Q (.bl (decide (j < i))) M := id rfl
theorem go_geI : Go (opGe (.int i) (.int j) M) Q = Q (.bl (decide (j ≤ i))) M := id rfl
theorem go_eqI : Go (opEq (.int i) (.int j) M) Q = Q (.bl (decide (i = j))) M := id rfl
theorem go_eqS : Go (opEq (.str x) (.str y) M) Q = Q (.bl (decide (x = y))) M := id rfl
theorem go_neI : Go (opNe (.int i) (.int j) M) Q = Q (.bl (!decide (i = j))) M := id rfl
theorem go_neS : Go (opNe (.str x) (.str y) M) Q = Q (.bl (!decide (x = y))) M := id rfl
theorem go_in {d e : D} : Go (opIn d e M) Q = ∃ b, inM M d e = some b ∧ Q (.bl b) M := by
  unfold opIn
  cases inM M d e <;> simp [Go]
theorem go_notIn {d e : D} : Go (opNotIn d e M) Q = ∃ b, inM M d e = some b ∧ Q (.bl (!b)) M := by
  unfold opNotIn
  cases inM M d e <;> simp [Go]
/-! subscripts -/
theorem go_ixL {n : Nat} (h : M[n]? = some (.lst ds)) : Go (opIx (.ref n) (.int i) M) Q = ∃ v, atI ds i = some v ∧ Q v M := by
  have e : opIx (.ref n) (.int i) M = (match atI ds i with
    | some v => .ok v M
    | none => .bad) := by
    simp only [opIx, dicOf, seqOf, lstOf, h] <;> rfl
  rw [e]
  cases atI ds i <;> simp [Go]
theorem go_ixF : Go (opIx (.lst ds) (.int i) M) Q = ∃ v, atI ds i = some v ∧ Q v M := by
  have e : opIx (.lst ds) (.int i) M = (match atI ds i with
    | some v => .ok v M
    | none => .bad) := rfl
  rw [e]
  cases atI ds i <;> simp [Go]
theorem go_ixT : Go (opIx (.tup ds) (.int i) M) Q = ∃ v, atI ds i = some v ∧ Q v M := by
  have e : opIx (.tup ds) (.int i) M = (match atI ds i with
    | some v => .ok v M
    | none => .bad) := rfl
  rw [e]
  cases atI ds i <;> simp [Go]
theorem go_ixS : Go (opIx (.str x) (.int i) M) Q = (szOk x.length = true ∧ ∃ c, atI x.cps.toList i = some c ∧ Q (.str ⟨#[c]⟩) M) := by
  have e : opIx (.str x) (.int i) M = if szOk x.length then (match atI x.cps.toList i with
    | some c => .ok (.str ⟨#[c]⟩) M
    | none => .bad) else .bad := rfl
  rw [e, go_iteC]
  cases atI x.cps.toList i <;> simp [Go]
theorem go_ixD {kvs : List (Key × D)} {e : D} : Go (opIx (.dic kvs) e M) Q = ∃ v, (keyOf e).bind (valD kvs) = some v ∧ Q v M := by
  have q : opIx (.dic kvs) e M = (match (keyOf e).bind (valD kvs) with
    | some v => .ok v M
    | none => .bad) := rfl
  rw [q]
  cases (keyOf e).bind (valD kvs) <;> simp [Go]
theorem atI_nat {α : Type} {xs : List α} {n : Nat} {a : α} (h : xs[n]? = some a) : atI xs (n : Int) = some a := by
  have hn := (List.getElem?_eq_some_iff.mp h).1
  unfold atI ixN
  rw [if_pos (Int.natCast_nonneg n), if_pos (by exact_mod_cast hn)]
  exact h
theorem atI_of {α : Type} {xs : List α} {i : Int} (h0 : 0 ≤ i) (h : i < xs.length) : ∃ a, xs[i.toNat]? = some a ∧ atI xs i = some a := by
  have hl : i.toNat < xs.length := by omega
  refine ⟨xs[i.toNat], List.getElem?_eq_getElem hl, ?_⟩
  unfold atI ixN
  rw [if_pos h0, if_pos h]
  exact List.getElem?_eq_getElem hl
/-! slices -/
theorem go_slT {lo hi : Option Int} : Go (opSl (.tup ds) lo hi M) Q = Q (.tup (cutD ds lo hi)) M := id rfl
theorem go_slF {lo hi : Option Int} : Go (opSl (.lst ds) lo hi M) Q = Q (.lst (cutD ds lo hi)) M := id rfl
theorem go_slR {lo hi : Option Int} : Go (opSl (.scr ds) lo hi M) Q = Q (.lst (cutD ds lo hi)) M := id rfl
theorem go_slS {lo hi : Option Int} : Go (opSl (.str x) lo hi M) Q = (szOk x.length = true ∧ Q (.str (cutS x lo hi)) M) := go_iteC
theorem go_slC {n : Nat} {lo hi : Option Int} (h : M[n]? = some (.lst ds)) : Go (opSl (.ref n) lo hi M) Q = Q (.lst (cutD ds lo hi)) M := by
  have e : opSl (.ref n) lo hi M = .ok (.lst (cutD ds lo hi)) M := by
    simp only [opSl, lstOf, h]
  rw [e]
  rfl
theorem go_revF : Go (opRev (.lst ds) M) Q = Q (.lst ds.reverse) M := id rfl
theorem go_revCF : Go (opRevC (.lst ds) M) Q = Q (.ref M.length) (M ++ [.lst ds.reverse]) := id rfl
theorem go_revC {n : Nat} (h : M[n]? = some (.lst ds)) : Go (opRev (.ref n) M) Q = Q (.lst ds.reverse) M := by
  have e : opRev (.ref n) M = .ok (.lst ds.reverse) M := by
    simp only [opRev, lstOf, h]
  rw [e]
  rfl
/-! methods -/
theorem go_append {n : Nat} {d : D} (h : M[n]? = some (.lst ds)) : Go (fAppend (.ref n) [d] M) Q = (ds.length + 1 ≤ 100000 ∧ Q .non (M.set n (.lst (ds ++ [d])))) := by
  have e : fAppend (.ref n) [d] M = if szOk (ds.length + 1) then .ok .non (M.set n (.lst (ds ++ [d]))) else .bad := by
    simp only [fAppend, h]
  rw [e, go_iteC]
  simp [szOk, Go]
theorem go_pop {n : Nat} (h : M[n]? = some (.lst ds)) : Go (fPop (.ref n) [] M) Q = ∃ y, ds[ds.length - 1]? = some y ∧ Q y (M.set n (.lst ds.dropLast)) := by
  have e : fPop (.ref n) [] M = (match ds[ds.length - 1]? with
      | some y => .ok y (M.set n (.lst ds.dropLast))
      | none => .bad) := by
    simp only [fPop, h] <;> rfl
  rw [e]
  cases ds[ds.length - 1]? <;> simp [Go]
theorem isLst_ref {n : Nat} (h : M[n]? = some (.lst ds)) : isLst (.ref n) M = true := by
  simp only [isLst, lstOf, h]
  rfl
end
end Ly

namespace Ly
open PySem PySem.Spec PyProof.Rows L2
/-! ### the deck: two cells, ahead of all others -/
def dk (xs : List Int) (s c : Int) (T : Mem) : Mem := .lst (xs.map .int) :: .lst [.ref 0, .int s, .int c] :: T
def DkIs (b : Nat) (T M : Mem) : Prop := ∃ xs s c, M = dk xs s c T ∧ xs.length ≤ 99 ∧ 0 ≤ s ∧ s < 2147483648 ∧ 0 ≤ c ∧ c ≤ b
theorem DkIs.mono {b b' : Nat} {T M : Mem} (h : DkIs b T M) (hb : b ≤ b') : DkIs b' T M := by
  obtain ⟨xs, s, c, e, h0, h1, h2, h3, h4⟩ := h
  exact ⟨xs, s, c, e, h0, h1, h2, h3, by omega⟩
theorem DkIs.push {b : Nat} {T M : Mem} (h : DkIs b T M) (c : Cell) : DkIs b (T ++ [c]) (M ++ [c]) := by
  obtain ⟨xs, s, k, rfl, h⟩ := h
  exact ⟨xs, s, k, rfl, h⟩
theorem DkIs.len {b : Nat} {T M : Mem} (h : DkIs b T M) : M.length = T.length + 2 := by
  obtain ⟨xs, s, k, rfl, h⟩ := h
  rfl
theorem DkIs.get {b : Nat} {T M : Mem} (h : DkIs b T M) (n : Nat) : M[n + 2]? = T[n]? := by
  obtain ⟨xs, s, k, rfl, h⟩ := h
  rfl
theorem DkIs.set {b : Nat} {T M : Mem} (h : DkIs b T M) (n : Nat) (c : Cell) : DkIs b (T.set n c) (M.set (n + 2) c) := by
  obtain ⟨xs, s, k, rfl, h⟩ := h
  exact ⟨xs, s, k, rfl, h⟩
theorem low_ints (k : Nat) : ∀ xs : List Int, lowL k (xs.map .int) = true
  | [] => rfl
  | x :: xs => by
    show (true && lowL k (xs.map .int)) = true
    rw [low_ints k xs]
    rfl
theorem low_strs (k : Nat) : ∀ xs : List Str, lowL k (xs.map .str) = true
  | [] => rfl
  | x :: xs => by
    show (true && lowL k (xs.map .str)) = true
    rw [low_strs k xs]
    rfl
/-- a def that changes the deck alone, and lays cells of its own -/
theorem DkIs.laid {b b' : Nat} {T N M M' : Mem} (h : DkIs b T M) (h' : DkIs b' (T ++ N) M') : Laid M M' ∧ DkIs b' T (M'.take M.length) := by
  obtain ⟨xs, s, k, rfl, _⟩ := h
  obtain ⟨xs', s', k', rfl, h⟩ := h'
  refine ⟨fun i hi => ?_, xs', s', k', ?_, h⟩
  · match i with
    | 0 => exact .inr ⟨_, rfl, low_ints _ _⟩
    | 1 => exact .inr ⟨_, rfl, by show (decide (0 < T.length + 1 + 1) && _) = true; rw [decide_eq_true (by omega)]; rfl⟩
    | i + 2 =>
      refine .inl ?_
      show (T ++ N)[i]? = T[i]?
      exact List.getElem?_append_left (by
        have : i + 2 < T.length + 2 := hi
        omega)
  · show _ :: _ :: (T ++ N).take T.length = _
    rw [List.take_left]
    rfl
theorem go_fin_dk {b b' : Nat} {T N M M' : Mem} {d d' : D} {Q : D → Mem → Prop} (h : DkIs b T M) (h' : DkIs b' (T ++ N) M') (e : frzD M.length M' 20 d = some d') (q : ∀ M2, DkIs b' T M2 → Q d' M2) : Go (finish M d M') Q :=
  go_finish (h.laid h').1 e (q _ (h.laid h').2)
theorem go_fin_dk0 {b b' : Nat} {T M M' : Mem} {d d' : D} {Q : D → Mem → Prop} (h : DkIs b T M) (h' : DkIs b' T M') (e : frzD M.length M' 20 d = some d') (q : ∀ M2, DkIs b' T M2 → Q d' M2) : Go (finish M d M') Q :=
  go_fin_dk (N := []) h (by rw [List.append_nil]; exact h') e q
/-- a def that changes nothing, and lays cells of its own -/
theorem laid_app (M N : Mem) : Laid M (M ++ N) := fun i hi => .inl (List.getElem?_append_left hi)
theorem go_fin_app {M N : Mem} {d d' : D} {Q : D → Mem → Prop} (e : frzD M.length (M ++ N) 20 d = some d') (q : Q d' M) : Go (finish M d (M ++ N)) Q :=
  go_finish (laid_app M N) e (by rw [List.take_left]; exact q)
theorem go_fin_same {M : Mem} {d d' : D} {Q : D → Mem → Prop} (e : frzD M.length M 20 d = some d') (q : Q d' M) : Go (finish M d M) Q :=
  go_finish (fun i hi => .inl rfl) e (by rw [List.take_length]; exact q)
theorem frz_low {k n : Nat} {M : Mem} {d : D} (h : d.low k = true) : frzD k M (n + 1) d = some d := by
  unfold frzD
  rw [if_pos h]
theorem cmulW {i j : Int} (hi : i.natAbs < 2 ^ 200) (hj : j.natAbs < 2 ^ 200) : CMulW i j := by
  have h1 : i.natAbs.log2 ≤ 200 := by
    by_cases z : i.natAbs = 0
    · rw [z]
      decide
    · exact Nat.le_of_lt (Nat.log2_lt z |>.mpr hi)
  have h2 : j.natAbs.log2 ≤ 200 := by
    by_cases z : j.natAbs = 0
    · rw [z]
      decide
    · exact Nat.le_of_lt (Nat.log2_lt z |>.mpr hj)
  unfold CMulW
  omega
/-! built-in functions -/
section
variable {M : Mem} {Q : D → Mem → Prop} {ds : List D} {x : Str} {i j : Int} {b : Bool} {n : Nat}
theorem go_listF : Go (fList [.lst ds] M) Q = Q (.lst ds) M := id rfl
theorem go_listT : Go (fList [.tup ds] M) Q = Q (.lst ds) M := id rfl
theorem go_tupleF : Go (fTuple [.lst ds] M) Q = Q (.tup ds) M := id rfl
theorem go_tupleT : Go (fTuple [.tup ds] M) Q = Q (.tup ds) M := id rfl
theorem go_tupleC (h : M[n]? = some (.lst ds)) : Go (fTuple [.ref n] M) Q = Q (.tup ds) M := by
  have e : fTuple [.ref n] M = .ok (.tup ds) M := by
    simp only [fTuple, lstOf, h]
  rw [e]
  rfl
theorem go_lenF : Go (fLen [.lst ds] M) Q = Q (.int (ds.length : Nat)) M := id rfl
theorem go_lenT : Go (fLen [.tup ds] M) Q = Q (.int (ds.length : Nat)) M := id rfl
theorem go_lenC (h : M[n]? = some (.lst ds)) : Go (fLen [.ref n] M) Q = Q (.int (ds.length : Nat)) M := by
  have e : fLen [.ref n] M = .ok (.int (ds.length : Nat)) M := by
    simp only [fLen, dicOf, seqOf, lstOf, h]
  rw [e]
  rfl
theorem go_lenS : Go (fLen [.str x] M) Q = (szOk x.length = true ∧ Q (.int (x.length : Nat)) M) := go_iteC
theorem go_isiS : Go (fIsi [.str x, .ty "str"] M) Q = Q (.bl true) M := id rfl
theorem go_isiI : Go (fIsi [.int i, .ty "str"] M) Q = Q (.bl false) M := id rfl
theorem go_intI : Go (fInt1 [.int i] M) Q = Q (.int i) M := id rfl
theorem go_intB : Go (fInt1 [.bl b] M) Q = Q (.int (if b then 1 else 0)) M := id rfl
theorem go_maxI : Go (fMax2 [.int i, .int j] M) Q = Q (.int (if j > i then j else i)) M := id rfl
theorem it_lst : itemsOf (.lst ds) M = some ⟨ds, fun _ => True⟩ := id rfl
theorem it_tupD : itemsOf (.tup ds) M = some ⟨ds, fun _ => True⟩ := id rfl
theorem it_strD : itemsOf (.str x) M = some ⟨x.cps.toList.map fun c => .str ⟨#[c]⟩, fun _ => True⟩ := id rfl
theorem en_lst : enumOf (.lst ds) M = some ⟨numbered ds, fun _ => True⟩ := id rfl
theorem en_tup : enumOf (.tup ds) M = some ⟨numbered ds, fun _ => True⟩ := id rfl
theorem fr_gN {d : D} {env : Env} {n : Nat} : (gN n).f d env = some (env.set n (some d)) := id rfl
theorem rngOk_of {i : Int} (h : -1000000 ≤ i) (h2 : i ≤ 1000000) : rngOk i := by
  unfold rngOk
  omega
end
/-! cells at the end -/
theorem at_last (M : Mem) (c : Cell) : (M ++ [c])[M.length]? = some c := by simp
theorem set_last (M : Mem) (c c' : Cell) : (M ++ [c]).set M.length c' = M ++ [c'] := by simp
theorem go_update {M : Mem} {Q : D → Mem → Prop} {n : Nat} {kvs more : List (Key × D)} (h : M[n]? = some (.dic kvs)) : Go (fUpdate (.ref n) [.dic more] M) Q = (szOk (kvs.length + more.length) = true ∧ Q .non (M.set n (.dic (mergeD kvs more)))) := by
  have e : fUpdate (.ref n) [.dic more] M = if szOk (kvs.length + more.length) then .ok .non (M.set n (.dic (mergeD kvs more))) else .bad := by
    simp only [fUpdate, h, dicOf]
  rw [e, go_iteC]
  rfl
theorem isDic_ref {M : Mem} {n : Nat} {kvs : List (Key × D)} (h : M[n]? = some (.dic kvs)) : isDic (.ref n) M = true := by
  simp only [isDic, dicOf, h]
  rfl
theorem isDic_dic {M : Mem} {kvs : List (Key × D)} : isDic (.dic kvs) M = true := rfl
theorem frz_dic {k n : Nat} {M : Mem} {kvs : List (Key × D)} (h : M[k]? = some (.dic kvs)) (hl : lowK k kvs = true) : frzD k M (n + 2) (.ref k) = some (.dic kvs) := by
  have fk : ∀ l : List (Key × D), lowK k l = true → frK (frzD k M (n + 1)) l = some l := by
    intro l
    induction l with
    | nil => exact fun _ => rfl
    | cons d l ih =>
      intro hl
      unfold lowK at hl
      show ((frzD k M (n + 1) d.2).bind fun a => (frK (frzD k M (n + 1)) l).map fun b => (d.1, a) :: b) = _
      rw [frz_low (and_l hl), ih (and_r hl)]
      rfl
  have nl : ¬ (D.ref k).low k = true := by
    unfold D.low
    simp
  unfold frzD
  rw [if_neg nl]
  show (M[k]?).bind (frzC (frzD k M (n + 1))) = _
  rw [h]
  show (frK (frzD k M (n + 1)) kvs).map D.dic = _
  rw [fk kvs hl]
  rfl
theorem frz_lst {k n : Nat} {M : Mem} {ds : List D} (h : M[k]? = some (.lst ds)) (hl : lowL k ds = true) : frzD k M (n + 2) (.ref k) = some (.lst ds) := by
  have fk : ∀ l : List D, lowL k l = true → frL (frzD k M (n + 1)) l = some l := by
    intro l
    induction l with
    | nil => exact fun _ => rfl
    | cons d l ih =>
      intro hl
      unfold lowL at hl
      show ((frzD k M (n + 1) d).bind fun a => (frL (frzD k M (n + 1)) l).map fun b => a :: b) = _
      rw [frz_low (and_l hl), ih (and_r hl)]
      rfl
  have nl : ¬ (D.ref k).low k = true := by
    unfold D.low
    simp
  unfold frzD
  rw [if_neg nl]
  show (M[k]?).bind (frzC (frzD k M (n + 1))) = _
  rw [h]
  show (frL (frzD k M (n + 1)) ds).map D.lst = _
  rw [fk ds hl]
  rfl
/-! a list against the empty one -/
theorem pdAll_ints : ∀ xs : List Int, pdAll (xs.map .int) = some (xs.map .int)
  | [] => rfl
  | x :: xs => by
    show ((pdAll (xs.map .int)).map fun ps => PyData.int x :: ps) = _
    rw [pdAll_ints xs]
    rfl
theorem canLay_ints : ∀ xs : List Int, PyData.canLayAll0 (xs.map .int) = true
  | [] => rfl
  | x :: xs => by
    show (true && PyData.canLayAll0 (xs.map .int)) = true
    rw [canLay_ints xs]
    rfl
theorem depth_ints : ∀ xs : List Int, PyData.depthAll (xs.map .int) = 0
  | [] => rfl
  | x :: xs => by
    show max 0 (PyData.depthAll (xs.map .int)) = 0
    rw [depth_ints xs]
    rfl
theorem go_neE {M : Mem} {n : Nat} {xs : List Int} {Q : D → Mem → Prop} (h : M[n]? = some (.lst (xs.map .int))) : Go (opNe (.ref n) (.lst []) M) Q = Q (.bl (!xs.isEmpty)) M := by
  have e1 : pdM M (.ref n) = some (.list (xs.map .int)) := by
    simp only [pdM, h, pdAll_ints]
    rfl
  have e2 : pdM M (.lst []) = some (.list []) := rfl
  have e3 : eqM M (.ref n) (.lst []) = some xs.isEmpty := by
    have s1 : SeqAt.shaped (.list (xs.map .int)) = true := by
      show (PyData.canLayAll0 (xs.map .int) && decide (PyData.depthAll (xs.map .int) + 1 ≤ 64)) = true
      rw [canLay_ints, depth_ints]
      rfl
    have s2 : SeqAt.shaped (.list []) = true := rfl
    unfold eqM
    rw [e1, e2]
    simp only [s1, s2, Bool.and_self, if_true]
    cases xs <;> rfl
  have e4 : opNe (.ref n) (.lst []) M = .ok (.bl (!xs.isEmpty)) M := by
    unfold opNe
    simp only [e3]
  rw [e4]
  rfl
end Ly

namespace Ly
open PySem PySem.Spec PyProof.Rows L2
/-! ### texts in lists -/
theorem inD_strs (x : Str) : ∀ ys : List Str, inD (.str x) (ys.map .str) = decide (x ∈ ys)
  | [] => rfl
  | y :: ys => by
    show (eqFD (.str y) (.str x) || inD (.str x) (ys.map .str)) = _
    rw [inD_strs x ys]
    show ((y == x) || _) = _
    by_cases h : y = x
    · subst h
      simp
    · have h' : ¬ x = y := fun z => h z.symm
      simp [h, h']
theorem flat_strs : ∀ ys : List Str, (ys.map D.str).all flatD = true
  | [] => rfl
  | y :: ys => by
    show (true && (ys.map D.str).all flatD) = true
    rw [flat_strs ys]
    rfl
theorem in_lst {M : Mem} {x : Str} {ys : List Str} : inM M (.str x) (.lst (ys.map .str)) = some (decide (x ∈ ys)) := by
  show (if flatD (.str x) && (ys.map D.str).all flatD then some (inD (.str x) (ys.map .str)) else none) = _
  rw [flat_strs, inD_strs]
  rfl
theorem in_tup {M : Mem} {x : Str} {ys : List Str} : inM M (.str x) (.tup (ys.map .str)) = some (decide (x ∈ ys)) := by
  show (if flatD (.str x) && (ys.map D.str).all flatD then some (inD (.str x) (ys.map .str)) else none) = _
  rw [flat_strs, inD_strs]
  rfl
theorem in_cell {M : Mem} {n : Nat} {x : Str} {ys : List Str} (h : M[n]? = some (.lst (ys.map .str))) : inM M (.str x) (.ref n) = some (decide (x ∈ ys)) := by
  have e : inM M (.str x) (.ref n) = (if flatD (.str x) && (ys.map D.str).all flatD then some (inD (.str x) (ys.map .str)) else none) := by
    simp only [inM, dicOf, seqOf, lstOf, h]
  rw [e, flat_strs, inD_strs]
  rfl
/-! ### slices -/
theorem cut_from (ds : List D) (n : Nat) : Ly.cutD ds (some (n : Int)) none = ds.drop n := by
  unfold Ly.cutD
  rw [HT.sIx_none, HT.sIx_nat]
  by_cases h : n ≤ ds.length
  · rw [Nat.min_eq_left h, List.take_of_length_le (by rw [List.length_drop]; omega)]
  · have h' : ds.length ≤ n := by omega
    rw [Nat.min_eq_right h', List.drop_eq_nil_of_le h', List.drop_eq_nil_of_le (Nat.le_refl _), List.take_nil]
theorem cut_to (ds : List D) (n : Nat) : Ly.cutD ds none (some (n : Int)) = ds.take n := by
  unfold Ly.cutD
  rw [HT.sIx_none, HT.sIx_nat, List.drop_zero, Nat.sub_zero]
  by_cases h : n ≤ ds.length
  · rw [Nat.min_eq_left h]
  · have h' : ds.length ≤ n := by omega
    rw [Nat.min_eq_right h', List.take_of_length_le h', List.take_of_length_le (Nat.le_refl _)]
/-! ### short texts of plain signs -/
def Nm (n : Nat) (x : Str) : Prop := x.cps.size ≤ n ∧ ∀ c ∈ x.cps.toList, c < 128
theorem Nm.mono {n m : Nat} {x : Str} (h : Nm n x) (hm : n ≤ m) : Nm m x := ⟨Nat.le_trans h.1 hm, h.2⟩
theorem Nm.cut {n : Nat} {x : Str} (h : Nm n x) (lo hi : Option Int) : Nm n (cutS x lo hi) := by
  refine ⟨?_, fun c hc => h.2 c ?_⟩
  · show (List.toArray _).size ≤ n
    rw [List.size_toArray, List.length_take, List.length_drop, Array.length_toList]
    have := h.1
    omega
  · unfold cutS at hc
    rw [List.toList_toArray] at hc
    exact List.mem_of_mem_drop (List.mem_of_mem_take hc)
theorem Nm.app {n m : Nat} {x y : Str} (h : Nm n x) (h' : Nm m y) : Nm (n + m) (x ++ y) := by
  refine ⟨?_, fun c hc => ?_⟩
  · show (x.cps ++ y.cps).size ≤ _
    rw [Array.size_append]
    have := h.1
    have := h'.1
    omega
  · have hc : c ∈ (x.cps ++ y.cps).toList := hc
    rw [Array.toList_append] at hc
    rcases List.mem_append.mp hc with z | z
    · exact h.2 c z
    · exact h'.2 c z
theorem Nm.sz {n : Nat} {x : Str} (h : Nm n x) (hn : n ≤ 100000) : szOk x.length = true := decide_eq_true (Nat.le_trans h.1 hn)
theorem Nm.one {c : Nat} (h : c < 128) : Nm 1 ⟨#[c]⟩ := ⟨Nat.le_refl _, fun d hd => by
  have : d = c := by simpa using hd
  rw [this]
  exact h⟩
theorem Nm.strOk {n : Nat} {x : Str} (h : Nm n x) : PyData.strOk x = true := by
  unfold PyData.strOk
  rw [← Array.all_toList, List.all_eq_true]
  intro c hc
  have := h.2 c hc
  exact decide_eq_true (by omega)
/-! ### counting -/
theorem nodup_len {α : Type} [DecidableEq α] : ∀ (l m : List α), l.Nodup → (∀ x ∈ l, x ∈ m) → l.length ≤ m.length
  | [], m, _, _ => Nat.zero_le _
  | x :: l, m, h, s => by
    have hx := s x List.mem_cons_self
    rw [List.nodup_cons] at h
    have := nodup_len l (m.erase x) h.2 fun y hy => (List.mem_erase_of_ne (fun (z : y = x) => h.1 (by rw [← z]; exact hy))).mpr (s y (List.mem_cons_of_mem _ hy))
    rw [List.length_erase_of_mem hx] at this
    have := List.length_pos_of_mem hx
    rw [List.length_cons]
    omega
theorem fill_len {α : Type} [DecidableEq α] (l m : List α) (hl : l.Nodup) : l.length ≤ m.length + (l.filter fun x => !decide (x ∈ m)).length := by
  have h1 : (l.filter fun x => decide (x ∈ m)).length ≤ m.length := nodup_len _ _ (hl.filter _) fun x hx => of_decide_eq_true (List.mem_filter.mp hx).2
  have h2 : l.length = (l.filter fun x => decide (x ∈ m)).length + (l.filter fun x => !decide (x ∈ m)).length := by
    have e : ∀ k : List α, k.length = (k.filter fun x => decide (x ∈ m)).length + (k.filter fun x => !decide (x ∈ m)).length := by
      intro k
      induction k with
      | nil => rfl
      | cons a k ih =>
        by_cases h : a ∈ m
        · simp [List.filter_cons, h]
          omega
        · simp [List.filter_cons, h]
          omega
    exact e l
  omega
/-! ### signs put together -/
theorem strsOf_map : ∀ xs : List Str, strsOf (xs.map .str) = some xs
  | [] => rfl
  | x :: xs => by
    show (strsOf (xs.map .str)).map (fun ys => x :: ys) = _
    rw [strsOf_map xs]
    rfl
theorem join_signs : ∀ cs : List Nat, (Str.join "" (cs.map fun c => (⟨#[c]⟩ : Str))).cps.toList = cs
  | [] => rfl
  | [c] => rfl
  | c :: d :: cs => by
    show ((⟨#[c]⟩ ++ ("" : Str) ++ Str.join "" ((d :: cs).map fun c => (⟨#[c]⟩ : Str)) : Str)).cps.toList = _
    have e : ∀ x y : Str, (x ++ y).cps.toList = x.cps.toList ++ y.cps.toList := fun x y => Array.toList_append
    rw [e, e, join_signs (d :: cs)]
    rfl
theorem go_joinS {M : Mem} {Q : D → Mem → Prop} {cs : List Nat} (hl : cs.length ≤ 1000) (q : ∀ x : Str, x.cps.toList = cs → Q (.str x) M) : Go (fJoin (.str "") [.lst (cs.map fun c => .str ⟨#[c]⟩)] M) Q := by
  have e1 : (cs.map fun c => D.str ⟨#[c]⟩) = (cs.map fun c => (⟨#[c]⟩ : Str)).map D.str := by rw [List.map_map]; rfl
  have e2 : ∀ l : List Nat, ((l.map fun c => (⟨#[c]⟩ : Str)).map (·.length)).sum = l.length := by
    intro l
    induction l with
    | nil => rfl
    | cons c l ih =>
      rw [List.map_cons, List.map_cons, List.sum_cons, ih, List.length_cons]
      show 1 + _ = _
      omega
  have e3 : fJoin (.str "") [.lst (cs.map fun c => .str ⟨#[c]⟩)] M = .ok (.str (Txt.join "" (cs.map fun c => (⟨#[c]⟩ : Str)))) M := by
    rw [e1]
    have e4 : (seqOf (.lst ((cs.map fun c => (⟨#[c]⟩ : Str)).map D.str)) M).bind strsOf = some (cs.map fun c => (⟨#[c]⟩ : Str)) := strsOf_map _
    unfold fJoin
    simp only [e4]
    rw [if_pos]
    rw [e2, show Str.length "" = 0 from rfl, Nat.mul_zero]
    omega
  rw [e3]
  refine q _ ?_
  rw [show Txt.join "" (cs.map fun c => (⟨#[c]⟩ : Str)) = Str.join "" (cs.map fun c => (⟨#[c]⟩ : Str)) from TL.join_eq "" _]
  exact join_signs cs
/-! ### comprehensions that change nothing -/
theorem go_compP {g : GD} {t : MT} {el : ME} {chk : Mem → Prop} {env : Env} {M : Mem} {Q : List D → Mem → Prop} (p : D → Bool) (e : D → D) (hc : chk M) (ds : List D) (hl : ds.length ≤ 100000)
    (step : ∀ d ∈ ds, ∃ e1, g.f d env = some e1 ∧ Go (t e1 M) fun c M1 => c = p d ∧ M1 = M ∧ (c = true → Go (el e1 M) fun y M2 => y = e d ∧ M2 = M)) (q : Q ((ds.filter p).map e) M) : Go (compL g t el chk env ds [] M) Q := by
  refine go_comp (fun rem acc M' => M' = M ∧ (∀ d ∈ rem, d ∈ ds) ∧ acc.length + rem.length ≤ ds.length ∧ acc ++ (rem.filter p).map e = (ds.filter p).map e) ?_ ?_ ds [] M ⟨rfl, fun _ h => h, by simp, rfl⟩
  · rintro d rem acc M' ⟨rfl, hr, hn, ha⟩
    obtain ⟨e1, h1, h2⟩ := step d (hr d List.mem_cons_self)
    refine ⟨hc, e1, h1, h2.imp fun c M1 ⟨hc1, hM, h3⟩ => ?_⟩
    subst hM
    rw [List.length_cons] at hn
    cases c with
    | false =>
      rw [if_neg Bool.false_ne_true]
      refine ⟨rfl, fun x hx => hr x (List.mem_cons_of_mem _ hx), by omega, ?_⟩
      rw [List.filter_cons, ← hc1, if_neg Bool.false_ne_true] at ha
      exact ha
    | true =>
      rw [if_pos rfl]
      refine (h3 rfl).imp fun y M2 ⟨hy, hM2⟩ => ?_
      subst hM2
      subst hy
      refine ⟨by omega, rfl, fun x hx => hr x (List.mem_cons_of_mem _ hx), by rw [List.length_append, List.length_singleton]; omega, ?_⟩
      rw [List.filter_cons, ← hc1, if_pos rfl, List.map_cons] at ha
      rw [List.append_assoc]
      exact ha
  · rintro acc M' ⟨rfl, hr, hn, ha⟩
    refine ⟨hc, ?_⟩
    rw [List.filter_nil, List.map_nil, List.append_nil] at ha
    rw [ha]
    exact q
end Ly

namespace Ly
open PySem PySem.Spec PyProof.Rows L2
/-! ### plain data: what == and repr take -/
def layB (d : D) : Bool := match pdOf d with
  | some p => p.canLay0 && decide (p.depth ≤ 60)
  | none => false
theorem lay_all : ∀ ds : List D, (∀ d ∈ ds, layB d = true) → ∃ ps, pdAll ds = some ps ∧ PyData.canLayAll0 ps = true ∧ PyData.depthAll ps ≤ 60 ∧ ps.isEmpty = ds.isEmpty
  | [], _ => ⟨[], rfl, rfl, Nat.zero_le _, rfl⟩
  | d :: ds, h => by
    obtain ⟨ps, e, h1, h2, _⟩ := lay_all ds fun x hx => h x (List.mem_cons_of_mem _ hx)
    have hd := h d List.mem_cons_self
    unfold layB at hd
    split at hd
    · next p ep =>
      refine ⟨p :: ps, ?_, ?_, ?_, rfl⟩
      · unfold pdAll
        rw [ep, e]
        rfl
      · show (p.canLay0 && PyData.canLayAll0 ps) = true
        rw [and_l hd, h1]
        rfl
      · show max p.depth (PyData.depthAll ps) ≤ 60
        exact Nat.max_le.mpr ⟨of_decide_eq_true (and_r hd), h2⟩
    · exact nomatch hd
theorem eq_emp {M : Mem} {d : D} {ps : List PyData} (e1 : pdM M d = some (.list ps)) (h1 : PyData.canLayAll0 ps = true) (h2 : PyData.depthAll ps ≤ 60) : eqM M d (.lst []) = some ps.isEmpty := by
  have s1 : SeqAt.shaped (.list ps) = true := by
    show (PyData.canLayAll0 ps && decide (PyData.depthAll ps + 1 ≤ 64)) = true
    rw [h1, decide_eq_true (by omega)]
    rfl
  have s2 : SeqAt.shaped (.list []) = true := rfl
  unfold eqM
  rw [e1, show pdM M (.lst []) = some (.list []) from rfl]
  simp only [s1, s2, Bool.and_self, if_true]
  cases ps <;> rfl
section
variable {M : Mem} {n : Nat} {ds : List D} {Q : D → Mem → Prop}
theorem eqM_cell (h : M[n]? = some (.lst ds)) (hl : ∀ d ∈ ds, layB d = true) : eqM M (.ref n) (.lst []) = some ds.isEmpty := by
  obtain ⟨ps, e, h1, h2, h3⟩ := lay_all ds hl
  rw [← h3]
  refine eq_emp ?_ h1 h2
  simp only [pdM, h, e]
  rfl
theorem eqM_lst (hl : ∀ d ∈ ds, layB d = true) : eqM M (.lst ds) (.lst []) = some ds.isEmpty := by
  obtain ⟨ps, e, h1, h2, h3⟩ := lay_all ds hl
  rw [← h3]
  refine eq_emp ?_ h1 h2
  show (pdAll ds).map PyData.list = _
  rw [e]
  rfl
theorem go_eqC (h : M[n]? = some (.lst ds)) (hl : ∀ d ∈ ds, layB d = true) : Go (opEq (.ref n) (.lst []) M) Q = Q (.bl ds.isEmpty) M := by
  have e : opEq (.ref n) (.lst []) M = .ok (.bl ds.isEmpty) M := by
    unfold opEq
    simp only [eqM_cell h hl]
  rw [e]
  rfl
theorem go_neL (hl : ∀ d ∈ ds, layB d = true) : Go (opNe (.lst ds) (.lst []) M) Q = Q (.bl (!ds.isEmpty)) M := by
  have e : opNe (.lst ds) (.lst []) M = .ok (.bl (!ds.isEmpty)) M := by
    unfold opNe
    simp only [eqM_lst hl]
  rw [e]
  rfl
theorem go_popAt {i : Int} (h : M[n]? = some (.lst ds)) : Go (fPopAt (.ref n) [.int i] M) Q = ((0 ≤ i ∧ i < ds.length ∧ szOk ds.length = true) ∧ ∃ y, ds[i.toNat]? = some y ∧ Q y (M.set n (.lst (ds.eraseIdx i.toNat)))) := by
  have e : fPopAt (.ref n) [.int i] M = if 0 ≤ i ∧ i < ds.length ∧ szOk ds.length = true then (match ds[i.toNat]? with
      | some y => .ok y (M.set n (.lst (ds.eraseIdx i.toNat)))
      | none => .bad) else .bad := by
    simp only [fPopAt, h] <;> rfl
  rw [e, go_iteC]
  cases ds[i.toNat]? <;> simp [Go]
theorem lay_str {k : Nat} {x : Str} (h : Nm k x) : layB (.str x) = true := by
  show (PyData.strOk x && decide (0 ≤ 60)) = true
  rw [h.strOk]
  rfl
end
/-! cells behind the deck's others -/
theorem DkIs.add {b : Nat} {T N M : Mem} (h : DkIs b (T ++ N) M) (c : Cell) : DkIs b (T ++ (N ++ [c])) (M ++ [c]) := by
  have := h.push c
  rw [List.append_assoc] at this
  exact this
theorem DkIs.old {b : Nat} {T N M : Mem} (h : DkIs b (T ++ N) M) {n : Nat} (hn : n < T.length) : M[n + 2]? = T[n]? := by
  rw [h.get, List.getElem?_append_left hn]
theorem DkIs.new {b : Nat} {T N M : Mem} (h : DkIs b (T ++ N) M) (i : Nat) : M[T.length + i + 2]? = N[i]? := by
  rw [h.get, List.getElem?_append_right (by omega), Nat.add_sub_cancel_left]
theorem DkIs.put {b : Nat} {T N M : Mem} (h : DkIs b (T ++ N) M) (i : Nat) (c : Cell) : DkIs b (T ++ N.set i c) (M.set (T.length + i + 2) c) := by
  have := h.set (T.length + i) c
  rw [List.set_append_right _ _ (by omega), Nat.add_sub_cancel_left] at this
  exact this
end Ly

namespace L2
open PySem PySem.Spec PyProof.Rows
/-! ### t[::-1] of a tuple -/
section
variable {prog : Program} {w : World} {A : Around} {E : Value → Shared → Prop} {s : Shared}
theorem adjust_back (n : Nat) : Builtin.Slice.sliceAdjust none none (-1) (n : Int) = ((n : Int) - 1, -1) := by
  unfold Builtin.Slice.sliceAdjust
  simp
theorem places_back (n : Nat) : Builtin.Slice.slicePlaces ((n : Int) - 1) (-1) (-1) = n := by
  unfold Builtin.Slice.slicePlaces
  simp
  split <;> omega
theorem applied_back {sl : Addr} {vl vu vs : Value} {n : Nat} {Q : Int × Int × Nat → Shared → Prop} (hs : s.heap.IsSliceOf sl vl vu vs) (pl : IsPart vl none) (pu : IsPart vu none) (ps : IsPart vs (some (-1)))
    (h : Q ((n : Int) - 1, -1, n) s) : wpAny (model prog w) A (Builtin.Slice.sliceApplied (.ref sl) (pure (n : Int))) Q E s := by
  obtain ⟨o, h1, h2, h3⟩ := id hs
  unfold Builtin.Slice.sliceApplied Builtin.Slice.sliceFields
  refine wpAny_bind (wpAny_bind (wpAny_field h1 h3 (x := vl) rfl (wpAny_bind (wpAny_field h1 h3 (x := vu) rfl (wpAny_bind (wpAny_field h1 h3 (x := vs) rfl (wpAny_pure ?_)))))))
  refine wpAny_bind (HT.slicePart_ ps ?_)
  show wpAny _ _ (if ((-1 : Int) == 0) = true then _ else _) _ _ s
  rw [if_neg (by decide)]
  refine wpAny_bind (HT.slicePart_ pl (wpAny_bind (HT.slicePart_ pu (wpAny_bind (wpAny_pure ?_)))))
  show wpAny _ _ (match Builtin.Slice.sliceAdjust none none (-1) (n : Int) with | (lo, hi) => pure (lo, (-1 : Int), Builtin.Slice.slicePlaces lo hi (-1))) _ _ s
  rw [adjust_back n]
  show wpAny _ _ (pure ((n : Int) - 1, (-1 : Int), Builtin.Slice.slicePlaces ((n : Int) - 1) (-1) (-1))) _ _ s
  rw [places_back]
  exact wpAny_pure h
theorem picked_back (xs : Array Value) : ((List.range xs.size).filterMap fun (m : Nat) => xs[(((xs.size : Int) - 1) + (m : Int) * -1).toNat]?).toArray = xs.toList.reverse.toArray := by
  have e : ∀ m, m < xs.size → xs[(((xs.size : Int) - 1) + (m : Int) * -1).toNat]? = xs[xs.size - 1 - m]? := fun m hm => by
    rw [show (((xs.size : Int) - 1) + (m : Int) * -1).toNat = xs.size - 1 - m by omega]
  have e2 : ((List.range xs.size).filterMap fun (m : Nat) => xs[(((xs.size : Int) - 1) + (m : Int) * -1).toNat]?) = (List.range xs.size).filterMap fun m => xs[xs.size - 1 - m]? := by
    have go : ∀ l : List Nat, (∀ m ∈ l, m < xs.size) → (l.filterMap fun (m : Nat) => xs[(((xs.size : Int) - 1) + (m : Int) * -1).toNat]?) = l.filterMap fun m => xs[xs.size - 1 - m]? := by
      intro l
      induction l with
      | nil => exact fun _ => rfl
      | cons m l ih =>
        intro h
        rw [List.filterMap_cons, List.filterMap_cons, e m (h m List.mem_cons_self), ih fun x hx => h x (List.mem_cons_of_mem _ hx)]
    exact go _ fun m hm => List.mem_range.mp hm
  have e3 : ((List.range xs.size).filterMap fun m => xs[xs.size - 1 - m]?) = ((List.range xs.size).map fun k => xs.size - 1 - k).filterMap (xs[·]?) := by
    rw [List.filterMap_map]
    rfl
  rw [e2, e3, PySem.W.krv_range, List.filterMap_reverse, PySem.W.krv_all]
theorem getItem_back {t sl : Addr} {items : Array Value} {vl vu vs : Value} {Q : Value → Shared → Prop} (ht : IsTup s.heap t items) (hs : s.heap.IsSliceOf sl vl vu vs) (pl : IsPart vl none) (pu : IsPart vu none) (ps : IsPart vs (some (-1)))
    (h : Q (.ref s.heap.objs.size) { s with heap := s.heap.push { cls := .type "tuple", data := .seq items.toList.reverse.toArray } }) (hsz : items.size ≤ sizeLine) : wpAny (model prog w) A (getItem (.ref t) (.ref sl)) Q E s := by
  have fits : sizeOk (.seq items.toList.reverse.toArray) := by
    show items.toList.reverse.toArray.size ≤ sizeLine
    rw [List.size_toArray, List.length_reverse, Array.length_toList]
    exact hsz
  obtain ⟨o, h1, h2, h3⟩ := id hs
  have ty : s.TypeIs (.ref sl) "slice" := ⟨o, h1, h2⟩
  unfold getItem
  try with_reducible refine wpAny_holding ?_
  first | refine wpAny_bind (wpAny_pure ?_) | skip
  refine wpAny_bind (wpAny_sequenceKey ht.typeIs (by decide) ?_)
  refine wpAny_bind (wpAny_callSpecial?_slot (name := Str.ofString "__getitem__") ht.typeIs PyProof.Rows.slot_tuple_getitem
    (wpAny_call_entry PyProof.Rows.slot_tuple_getitem ht.typeIs PyProof.Rows.entry_tuple_getitem ?_ (PyProof.Rows.args_tuple_getitem _ _)))
  show wpAny _ _ (Builtin.Tuple.tupleItemsOf (.ref t) >>= _) _ _ s
  refine wpAny_bind (PyProof.Rows.tupleItemsOf_ ht ?_)
  refine wpAny_bind (wpAny_typeOf ty ?_)
  rw [if_pos (by decide)]
  refine wpAny_bind (applied_back hs pl pu ps ?_)
  have no : ¬ (((((items.size : Int) - 1)) == 0 && (-1 : Int) == 1 && items.size == items.size) = true) := by
    rw [show ((-1 : Int) == 1) = false from rfl, Bool.and_false, Bool.false_and]
    exact Bool.false_ne_true
  show wpAny _ _ (if ((((items.size : Int) - 1)) == 0 && (-1 : Int) == 1 && items.size == items.size) = true then _ else _) _ _ s
  rw [if_neg no, picked_back]
  first
    | exact wpAny_bind (m := Builtin.Tuple.tupleExact _) (wpAny_newObj_type (wpAny_pure ⟨_, rfl, wpAny_pure h⟩) fits)
    | exact wpAny_bind (m := Builtin.Tuple.tupleExact _) (wpAny_newObj_type (wpAny_bind (wpAny_pure (wpAny_pure ⟨_, rfl, wpAny_pure h⟩))) fits)
    | exact wpAny_bind (wpAny_bind (m := Builtin.Tuple.tupleExact _) (wpAny_newObj_type (wpAny_pure (wpAny_pure ⟨_, rfl, wpAny_pure h⟩)) fits))
    | exact wpAny_bind (wpAny_bind (m := Builtin.Tuple.tupleExact _) (wpAny_newObj_type (wpAny_pure ⟨_, rfl, wpAny_pure h⟩) fits))
end
section
variable {X : Cx}
def tRevT (K : PySem.W.Frag) (te : TE) : TE := fun σ H Q => te σ H fun x H1 => ∃ a xs, x = .ref a ∧ SqT K H1 a xs ∧ ∀ p, H1 p = none → Q (.ref p) (upd H1 p (.tup xs.reverse))
theorem pe_revT {e : Expr} {te : TE} {k : Nat} {p1 p2 p3 pos : Pos} (he : PE X e te) : PE X (.Subscript e (.Slice none none (some (.UnaryOp .USub (.Constant (.int 1) k p1) p2)) p3) pos) (tRevT X.K te) := by
  refine ⟨fun pins s σ H Q I h => ?_⟩
  refine Subscript_ (thn (he.run pins s σ H _ I h) fun v s1 ⟨x, H1, I1, r1, a, xs, ex, hx, q⟩ => ?_)
  subst ex
  cases r1
  have step : PO X (some (.UnaryOp .USub (.Constant (.int 1) k p1) p2)) (tPart (tUn (rU fun i => .int (-i)) (tC (.int 1)))) := po_some (pe_un un_neg pe_int)
  refine wpAny_Slice (thn (po_none.run pins s1 σ H1 (fun o H2 => o = none ∧ H2 = H1) I1 ⟨rfl, rfl⟩) fun vl s2 ⟨l, H2, I2, pl, el, e2⟩ => ?_)
  subst el e2
  refine thn (po_none.run pins s2 σ H2 (fun o H3 => o = none ∧ H3 = H2) I2 ⟨rfl, rfl⟩) fun vu s3 ⟨u, H3, I3, pu, eu, e3⟩ => ?_
  subst eu e3
  refine thn (step.run pins s3 σ H3 (fun o H4 => o = some (-1) ∧ H4 = H3) I3 ⟨1, rfl, -1, rfl, rfl, rfl⟩) fun vs s4 ⟨o, H4, I4, ps, eo, e4⟩ => ?_
  subst eo e4
  have I5 : Inv X pins σ H4 { s4 with heap := s4.heap.push { cls := .type "slice", data := .fields #[vl, vu, vs] } } := I4.kept (t' := s4.toks) fun b ob q => Heap.get?_push_of_some _ q
  obtain ⟨its, r, ht, hz⟩ := I5.tuple hx
  have len := r.length
  show wpAny (model X.prog X.w) X.A (subscriptTail e (.Slice none none (some (.UnaryOp .USub (.Constant (.int 1) k p1) p2)) p3) (.ref a) (.ref s4.heap.objs.size)) (EP X pins σ Q) X.xe { s4 with heap := s4.heap.push { cls := .type "slice", data := .fields #[vl, vu, vs] } }
  refine tail_any (ops := [.ref a, .ref s4.heap.objs.size]) ht.typeIs (PyProof.Rows.slot_tuple_getitem.lookup) ?_ (by with_unfolding_all rfl)
  refine getItem_back ht (Heap.IsSliceOf.new _ vl vu vs) pl pu ps ?_ (by rw [List.size_toArray, ← len]; exact hz)
  refine ⟨.ref _, _, I5.laid (t' := s4.toks) (o := .tup xs.reverse) (fun b ob q => Heap.get?_push_of_some _ q) (Nat.le_refl _) ?_, rfl, q _ (I5.hok.fresh (Nat.le_refl _))⟩
  exact ⟨by rw [List.length_reverse]; exact hz, _, r.reverse, IsTup.new _ _⟩
end
end L2
namespace Ly
open PySem PySem.Spec PyProof.Rows L2
section
variable {G : Gd} {k : Nat} {E : XK} {N : List Str} {sc : Scope} {X : Cx} {a : Expr} {ma : ME} {pos : Pos}
def opRevT (d : D) (M : Mem) : Res D := match d with
  | .tup ds => .ok (.tup ds.reverse) M
  | _ => .bad
theorem ce_revT {kk : Nat} {p1 p2 p3 : Pos} (c : Cq G k E N sc X) (ha : PE X a (tD G.K E ma)) : PE X (.Subscript a (.Slice none none (some (.UnaryOp .USub (.Constant (.int 1) kk p1) p2)) p3) pos) (tD G.K E (mUn opRevT ma)) := by
  obtain rfl := c.g
  refine (pe_revT ha).imp fun σ H Q ⟨env, L, M, he, hm, h⟩ => ?_
  refine ⟨env, L, M, he, hm, Fin.imp (Fin.bind h) fun x H1 ⟨d, M1, L1, s1, m1, r1, h1⟩ => ?_⟩
  unfold opRevT at h1
  split at h1
  · obtain ⟨ad, vs, rfl, q, rk⟩ := r1.tup_inv
    exact ⟨ad, vs, rfl, q, new_tup m1 rk.reverse h1⟩
  · exact h1.elim
def opRevA (d : D) (M : Mem) : Res D := match d with
  | .tup ds => .ok (.tup ds.reverse) M
  | d => opRev d M
/-- of a list or a tuple -/
theorem ce_revA {kk : Nat} {p1 p2 p3 : Pos} (c : Cq G k E N sc X) (ha : PE X a (tD G.K E ma)) : PE X (.Subscript a (.Slice none none (some (.UnaryOp .USub (.Constant (.int 1) kk p1) p2)) p3) pos) (tD G.K E (mUn opRevA ma)) := by
  refine ⟨fun pins s σ H Q I ⟨env, L, M, he, hm, h⟩ => ?_⟩
  have both : mUn opRevA ma env M = mUn opRevT ma env M ∨ mUn opRevA ma env M = mUn opRev ma env M := by
    unfold mUn
    cases ma env M with
    | ok d M1 => cases d <;> first | exact .inl rfl | exact .inr rfl
    | exc x M1 => exact .inl rfl
    | bad => exact .inl rfl
  rcases both with e | e
  · exact (ce_revT c ha).run pins s σ H Q I ⟨env, L, M, he, hm, by rw [← e]; exact h⟩
  · exact (ce_rev c ha).run pins s σ H Q I ⟨env, L, M, he, hm, by rw [← e]; exact h⟩
theorem go_revAT {M : Mem} {Q : D → Mem → Prop} {ds : List D} : Go (opRevA (.tup ds) M) Q = Q (.tup ds.reverse) M := id rfl
theorem go_revAL {M : Mem} {Q : D → Mem → Prop} {ds : List D} : Go (opRevA (.lst ds) M) Q = Q (.lst ds.reverse) M := id rfl
theorem go_revAC {M : Mem} {n : Nat} {Q : D → Mem → Prop} {ds : List D} (h : M[n]? = some (.lst ds)) : Go (opRevA (.ref n) M) Q = Q (.lst ds.reverse) M := go_revC h
theorem go_revT {M : Mem} {Q : D → Mem → Prop} {ds : List D} : Go (opRevT (.tup ds) M) Q = Q (.tup ds.reverse) M := id rfl
end
end Ly

namespace Ly
open PySem PySem.Spec PyProof.Rows L2
section
variable {G : Gd} {k : Nat} {E : XK} {N : List Str} {sc : Scope} {X : Cx} {e : Expr} {st : Stmt} {pos : Pos} {mr : MA}
/-! ### what is never reached -/
def mBadE : ME := fun _ _ => .bad
def mBadS : MS := fun _ _ => .bad
theorem ce_bad : PE X e (tD G.K E mBadE) := ⟨fun _ _ _ _ _ _ ⟨_, _, _, _, _, h⟩ => h.elim⟩
theorem cs_bad : PS X st (sD G.K E mBadS) := ⟨fun _ _ _ _ _ _ ⟨_, _, _, _, _, h⟩ => h.elim⟩
/-! ### a, b = x, y -/
def mPar2 (i j : Nat) (r : MA) : MS := fun env M => (r env M).bindS fun ds M1 => match ds with
  | [a, b] => .nx ((env.set i (some a)).set j (some b)) M1
  | _ => .bad
def mPar3 (i j l : Nat) (r : MA) : MS := fun env M => (r env M).bindS fun ds M1 => match ds with
  | [a, b, c] => .nx (((env.set i (some a)).set j (some b)).set l (some c)) M1
  | _ => .bad
theorem cs_par2 {i j : Nat} {x y : Str} {a b : Expr} {px py pt : Pos} {kt k2 pt2} (c : Cq G k E N sc X) (hi : N[i]? = some x) (hj : N[j]? = some y) (hij : i ≠ j) (hx : sc.names.lookup x = some NameKind.local) (hy : sc.names.lookup y = some NameKind.local) (ha : PA X [a, b] (tAD G.K E mr))
    (hw : swappedStores [.Tuple [.Name x px, .Name y py] kt pt] (.Tuple [a, b] k2 pt2) X.env = pure (some [x, y]))
    (hs : swapsWithSole [.Tuple [.Name x px, .Name y py] kt pt] (.Tuple [a, b] k2 pt2) pos.line X.env = pure false := by rfl) :
    PS X (.Assign [.Tuple [.Name x px, .Name y py] kt pt] (.Tuple [a, b] k2 pt2) pos) (sD G.K E (mPar2 i j mr)) := by
  refine (ps_par (i := i) (j := j) c.calm (by rw [c.n]; exact c.nd) (by rw [c.n]; exact hi) (by rw [c.n]; exact hj) hij (by rw [c.scq]; exact hx) (by rw [c.scq]; exact hy) ha hw hs).imp fun T σ H ⟨env, L, M, he, hm, h⟩ => ?_
  refine ⟨env, L, M, he, hm, Fin.imp (Fin.bindS h) fun vs H1 ⟨ds, M1, L1, s1, m1, r1, h1⟩ => ?_⟩
  split at h1
  · obtain ⟨v, w, rfl, q1, q2⟩ := two_inv r1
    exact ⟨v, w, rfl, h1 L1 H1 _ Step.refl m1 (((he.step s1).set i q1).set j q2)⟩
  · exact h1.elim
theorem cs_par3 {i j l : Nat} {x y z : Str} {a b d : Expr} {px py pz pt : Pos} {kt k2 pt2} (c : Cq G k E N sc X) (hi : N[i]? = some x) (hj : N[j]? = some y) (hl : N[l]? = some z) (hij : i ≠ j) (hil : i ≠ l) (hjl : j ≠ l)
    (hx : sc.names.lookup x = some NameKind.local) (hy : sc.names.lookup y = some NameKind.local) (hz : sc.names.lookup z = some NameKind.local) (ha : PA X [a, b, d] (tAD G.K E mr))
    (hw : swappedStores [.Tuple [.Name x px, .Name y py, .Name z pz] kt pt] (.Tuple [a, b, d] k2 pt2) X.env = pure (some [x, y, z]))
    (hs : swapsWithSole [.Tuple [.Name x px, .Name y py, .Name z pz] kt pt] (.Tuple [a, b, d] k2 pt2) pos.line X.env = pure false := by rfl) :
    PS X (.Assign [.Tuple [.Name x px, .Name y py, .Name z pz] kt pt] (.Tuple [a, b, d] k2 pt2) pos) (sD G.K E (mPar3 i j l mr)) := by
  refine (ps_par3 (i := i) (j := j) (l := l) c.calm (by rw [c.n]; exact c.nd) (by rw [c.n]; exact hi) (by rw [c.n]; exact hj) (by rw [c.n]; exact hl) hij hil hjl (by rw [c.scq]; exact hx) (by rw [c.scq]; exact hy) (by rw [c.scq]; exact hz) ha hw hs).imp fun T σ H ⟨env, L, M, he, hm, h⟩ => ?_
  refine ⟨env, L, M, he, hm, Fin.imp (Fin.bindS h) fun vs H1 ⟨ds, M1, L1, s1, m1, r1, h1⟩ => ?_⟩
  split at h1
  · cases r1 with
    | cons q1 r1 =>
      obtain ⟨v, w, rfl, q2, q3⟩ := two_inv r1
      exact ⟨_, v, w, rfl, h1 L1 H1 _ Step.refl m1 ((((he.step s1).set i q1).set j q2).set l q3)⟩
  · exact h1.elim
/-! ### constants of the module -/
theorem ce_gint {x : Str} {i : Int} (c : Cq G k E N sc X) (hm : ∃ t, G.mg x = some (.int i t)) (hg : sc.names.lookup x = some NameKind.globalImplicit) (hd : (x == ("__debug__" : Str)) = false := by decide +kernel) : PE X (.Name x pos) (tD G.K E (mC (.int i))) := by
  obtain ⟨t, hm⟩ := hm
  exact ce_glob (v := .int i) c hg hm ⟨t, rfl⟩ (fun _ _ => .int i) hd
theorem ce_gstr {x z : Str} (c : Cq G k E N sc X) (hm : ∃ t, G.mg x = some (.str z t)) (hg : sc.names.lookup x = some NameKind.globalImplicit) (hd : (x == ("__debug__" : Str)) = false := by decide +kernel) : PE X (.Name x pos) (tD G.K E (mC (.str z))) := by
  obtain ⟨t, hm⟩ := hm
  exact ce_glob (v := .str z) c hg hm ⟨t, rfl⟩ (fun _ _ => .str z) hd
/-- data of the written part -/
def KIs (K : PySem.W.Frag) (d : D) (a : Addr) : Prop := ∀ L H, Is K L H d (.ref a)
theorem ce_gdat {x : Str} {d : D} (c : Cq G k E N sc X) (hk : KIs G.K d (He.ga G.K x)) (hm : G.mg x = some (.ref (He.ga G.K x))) (hg : sc.names.lookup x = some NameKind.globalImplicit) (hd : (x == ("__debug__" : Str)) = false := by decide +kernel) : PE X (.Name x pos) (tD G.K E (mC d)) :=
  ce_glob (v := .ref (He.ga G.K x)) c hg hm rfl (fun L H => hk L H) hd
/-- a tuple of texts of the module -/
theorem kis_tup {K : PySem.W.Frag} {x : Str} {zs : List Str} (h : He.tupB K x (zs.map .str) = true) : KIs K (.tup (zs.map .str)) (He.ga K x) := fun L H => by
  have q := He.tupB_ok h (fun _ => none)
  have e : ∀ l : List Str, IsL K L H (l.map .str) ((l.map He.Dv.str).map (He.Dv.v K)) := by
    intro l
    induction l with
    | nil => exact .nil
    | cons z l ih => exact .cons (.str z) ih
  rcases q with (q | ⟨o, q⟩) | ⟨o, its, n, h1, h2, h3, h4, h5⟩
  · cases (show (none : Option HO) = some _ from q)
  · cases (show (none : Option HO) = some _ from q)
  · exact .tupK ⟨o, its, n, h1, h2, h3, h4, h5⟩ (e zs)
end
end Ly

namespace Ly
open PySem PySem.Spec PyProof.Rows L2
section
variable {G : Gd} {k : Nat} {E : XK} {N : List Str} {sc : Scope} {X : Cx} {a b d e o : Expr} {es : List Expr} {pos p apos cpos : Pos} {ma mb mc mo : ME} {mr : MA}
/-! ### is None -/
def isNon : D → Bool
  | .non => true
  | _ => false
def opIsN (d e : D) (M : Mem) : Res D := match e with
  | .non => .ok (.bl (isNon d)) M
  | _ => .bad
def opNotN (d e : D) (M : Mem) : Res D := match e with
  | .non => .ok (.bl (!isNon d)) M
  | _ => .bad
theorem isNon_ok {K : PySem.W.Frag} {L : Wd} {H : Hp} {d : D} {v : V} (r : Is K L H d v) : decide (v = .non) = isNon d := by
  cases r <;> first | rfl | exact decide_eq_false (by nofun)
theorem rs_isN {K : PySem.W.Frag} : RS2 K (fun x y H Q => y = .non ∧ Q (.bl (decide (x = .non))) H) opIsN := by
  intro E L H M d e x y Q m rd re h
  unfold opIsN at h
  split at h
  · cases re
    exact ⟨rfl, by rw [isNon_ok rd]; exact h.end_ m (.bl _)⟩
  · exact h.elim
theorem rs_notN {K : PySem.W.Frag} : RS2 K (fun x y H Q => y = .non ∧ Q (.bl (!decide (x = .non))) H) opNotN := by
  intro E L H M d e x y Q m rd re h
  unfold opNotN at h
  split at h
  · cases re
    exact ⟨rfl, by rw [isNon_ok rd]; exact h.end_ m (.bl _)⟩
  · exact h.elim
theorem ce_isN (ha : PE X a (tD G.K E ma)) (hb : PE X b (tD G.K E mb)) : PE X (.Compare a [.Is] [b] pos) (tD G.K E (mBin opIsN ma mb)) := ce_cmp op_isN rs_isN ha hb (nomark b)
theorem ct_isN (ha : PE X a (tD G.K E ma)) (hb : PE X b (tD G.K E mb)) : PT X (.Compare a [.Is] [b] pos) (tTD G.K E (mTest (mBin opIsN ma mb))) := ct_cmp op_isN rs_isN ha hb (nomark b)
theorem ce_notN (ha : PE X a (tD G.K E ma)) (hb : PE X b (tD G.K E mb)) : PE X (.Compare a [.IsNot] [b] pos) (tD G.K E (mBin opNotN ma mb)) := ce_cmp op_notN rs_notN ha hb (nomark b)
theorem ct_notN (ha : PE X a (tD G.K E ma)) (hb : PE X b (tD G.K E mb)) : PT X (.Compare a [.IsNot] [b] pos) (tTD G.K E (mTest (mBin opNotN ma mb))) := ct_cmp op_notN rs_notN ha hb (nomark b)
/-! ### a <= b <= c of ints -/
def mChain (op op' : D → D → Mem → Res D) (ma mb mc : ME) : ME := fun env M => (ma env M).bind fun x M1 => (mb env M1).bind fun y M2 => (op x y M2).bind fun t M3 => match t with
  | .bl true => (mc env M3).bind fun z M4 => op' y z M4
  | .bl false => .ok (.bl false) M3
  | _ => .bad
theorem chain_sim {r r' : R2} {op op' : D → D → Mem → Res D} (h1 : RS2 G.K r op) (h2 : RS2 G.K r' op') {σ : L2.St} {H : Hp} {Q : VK} (h : tD G.K E (mChain op op' ma mb mc) σ H Q) : tChain r r' (tD G.K E ma) (tD G.K E mb) (tD G.K E mc) σ H Q := by
  obtain ⟨env, L, M, he, hm, h⟩ := h
  refine ⟨env, L, M, he, hm, Fin.imp (Fin.bind h) fun x H1 ⟨dx, M1, L1, s1, m1, r1, h⟩ => ?_⟩
  refine ⟨env, L1, M1, he.step s1, m1, Fin.imp (Fin.bind h) fun y H2 ⟨dy, M2, L2, s2, m2, r2, h⟩ => ?_⟩
  refine h1 E L2 H2 M2 dx dy x y _ m2 (r1.step s2) r2 (Fin.imp (Fin.bind h) fun t H3 ⟨dt, M3, L3, s3, m3, r3, h⟩ => ?_)
  split at h
  · cases r3
    refine ⟨true, rfl, ?_⟩
    rw [if_pos rfl]
    refine ⟨env, L3, M3, ((he.step s1).step s2).step s3, m3, Fin.imp (Fin.bind h) fun z H4 ⟨dz, M4, L4, s4, m4, r4, h⟩ => ?_⟩
    exact h2 E L4 H4 M4 dy dz y z Q m4 ((r2.step s3).step s4) r4 h
  · cases r3
    refine ⟨false, rfl, ?_⟩
    rw [if_neg Bool.false_ne_true]
    exact h.end_ m3 (.bl _)
  · exact h.elim
theorem ce_chainLe (ha : PE X a (tD G.K E ma)) (hb : PE X b (tD G.K E mb)) (hc : PE X d (tD G.K E mc)) (hm : lastMarks [.LtE, .LtE] [b, d] = false := by with_unfolding_all rfl) : PE X (.Compare a [.LtE, .LtE] [b, d] pos) (tD G.K E (mChain opLe opLe ma mb mc)) :=
  (pe_chain op_le op_le ha hb hc hm).imp fun _ _ _ h => chain_sim rs_le rs_le h
/-! ### d.get(k) -/
def opGet1 (d y : D) (M : Mem) : Res D := match dicOf d M, keyOf y with
  | some kvs, some k => .ok ((valD kvs k).getD .non) M
  | _, _ => .bad
def mGet1 (mo ma : ME) : ME := fun env M => (mo env M).bind fun d M1 => if isDic d M1 then (ma env M1).bind fun y M2 => opGet1 d y M2 else .bad
theorem ce_get1 (c : Cq G k E N sc X) (ho : PE X o (tD G.K E mo)) (ha : PE X a (tD G.K E ma)) (m1 : M1 X o "get" apos a cpos) : PE X (.Call (.Attribute o "get" apos) [a] [] cpos) (tD G.K E (mGet1 mo ma)) := by
  refine (pe_dget1 (hu_of c.room) ho ha m1).imp fun σ H Q ⟨env, L, M, he, hm, h⟩ => ?_
  refine ⟨env, L, M, he, hm, Fin.imp (Fin.bind h) fun x H1 ⟨d, M1, L1, s1, m1, r1, h1⟩ => ?_⟩
  split at h1
  · rename_i hy
    obtain ⟨kvs, hk⟩ := Option.isSome_iff_exists.mp hy
    obtain ⟨ad, kws, rfl, q, r⟩ := dicOf_ok m1 r1 hk
    refine ⟨ad, rfl, .inl ⟨kws, .inl q⟩, env, L1, M1, he.step s1, m1, Fin.imp (Fin.bind h1) fun y H2 ⟨dy, M2, L2, s2, m2, r2, h2⟩ => ?_⟩
    unfold opGet1 at h2
    split at h2
    · rename_i kvs3 k3 hd3 hk3
      obtain ⟨ad', kws3, e3, q3, r3'⟩ := dicOf_ok m2 (r1.step s2) hd3
      cases e3
      obtain rfl := key_ok r2 hk3
      refine ⟨valV kws3 k3, DGet.k q3, ?_⟩
      obtain ⟨z1, z2⟩ := val_ok k3 r3'
      cases hv : valD kvs3 k3 with
      | none =>
        rw [z2 hv]
        rw [hv] at h2
        exact h2.end_ m2 .non
      | some w =>
        obtain ⟨v', e1, r'⟩ := z1 w hv
        rw [e1]
        rw [hv] at h2
        exact h2.end_ m2 r'
    · exact h2.elim
  · exact h1.elim
/-! ### str(..) -/
def fStr : MF := fun ds M => match ds with
  | [.str x] => .ok (.str x) M
  | [.int i] => if i.natAbs.log2 < 1920 then .ok (.str (toString i)) M else .bad
  | _ => .bad
theorem rs_str {K : PySem.W.Frag} : RSC K (fun xs H Q => (∃ i : Int, xs = [.int i] ∧ i.natAbs.log2 < 1920 ∧ Q (.str (toString i)) H) ∨ ∃ a, xs = [.str a] ∧ Q (.str a) H) fStr := by
  intro E L H M ds xs Q m rl h
  unfold fStr at h
  split at h
  · obtain ⟨v, rfl, r⟩ := one_inv rl
    cases r
    exact .inr ⟨_, rfl, h.end_ m (.str _)⟩
  · obtain ⟨v, rfl, r⟩ := one_inv rl
    split at h
    · next hz =>
      cases r
      exact .inl ⟨_, rfl, hz, h.end_ m (.str _)⟩
    · exact h.elim
  · exact h.elim
theorem ce_str1 (c : Cq G k E N sc X) (hm : G.mg "str" = none) (ha : PA X (e :: es) (tAD G.K E mr)) (hg : sc.names.lookup ("str" : Str) = some NameKind.globalImplicit := by rfl)
    (he : starEach (e :: es) X.env = (false, eval e X.env) :: starEach es X.env := by rfl) (hpl : (backTo pos (starEach es X.env)).any (·.1) = false := by rfl) :
    PE X (.Call (.Name "str" p) (e :: es) [] pos) (tD G.K E (mCB fStr mr)) := by
  obtain rfl := c.g
  exact ce_callT (call_str_int.or SkE.call_str_str) rs_str c hg hm (by decide +kernel) ha (by decide +kernel) (by decide +kernel) he hpl
end
end Ly

namespace Ly
open PySem PySem.Spec PyProof.Rows L2
/-! ### f(k = v, ..): all by names; g, gD: the values in the parameters' order -/
structure CalW (G : Gd) (k : Nat) (x : Str) (ps ks : List Str) (g : List Value → List Value) (gV : List V → List V) (gD : List D → List D) (f : MF) : Prop where
  ex : ∃ fd, FnG G k (He.ga G.K x) fd ps (spD G.K ps.length f) ∧ ∀ (s : Shared) (ws : List Value), ws.length = ks.length → BindsTo s fd ⟨[], ks.zip ws⟩ (ps.zip (g ws))
  rel : ∀ {zs : List V} {ws : List Value}, Vals zs ws → Vals (gV zs) (g ws)
  isl : ∀ {K : PySem.W.Frag} {L : Wd} {H : Hp} {ds : List D} {zs : List V}, ds.length = ks.length → IsL K L H ds zs → IsL K L H (gD ds) (gV zs) ∧ (gV zs).length = ps.length
  kp : PySem.W.keepIn G.K (.ref (He.ga G.K x)) = true
  gl : G.mg x = some (.ref (He.ga G.K x))
section
variable {G : Gd} {k j : Nat} {E : XK} {N ps ks : List Str} {sc : Scope} {X : Cx} {e : Expr} {kws : List Keyword} {mr : MA} {pos p kpos : Pos} {x : Str} {f : MF} {g : List Value → List Value} {gV : List V → List V} {gD : List D → List D} {ma : ME} {nm : Option Str}
theorem ck_nil : PK X [] (tAD G.K E mNil) := ⟨fun pos pins s σ H Q I ⟨env, L, M, he, hm, h⟩ => pk_nil.run pos pins s σ H Q I (h.end_ hm .nil)⟩
theorem ck_cons (ha : PE X e (tD G.K E ma)) (hr : PK X kws (tAD G.K E mr)) : PK X (⟨nm, e, kpos⟩ :: kws) (tAD G.K E (mCons ma mr)) :=
  ⟨fun pos pins s σ H Q I ⟨env, L, M, he, hm, h⟩ => (pk_cons (nm := nm) (kpos := kpos) ha hr).run pos pins s σ H Q I (by
    refine ⟨env, L, M, he, hm, Fin.imp (Fin.bind h) fun v H1 ⟨d, M1, L1, s1, m1, r1, h1⟩ => ?_⟩
    refine ⟨env, L1, M1, he.step s1, m1, Fin.imp (Fin.bind h1) fun vs H2 ⟨ds, M2, L2, s2, m2, r2, h2⟩ => ?_⟩
    exact h2.end_ m2 (.cons (r1.step s2) r2))⟩
def mCallW (n : Nat) (gD : List D → List D) (f : MF) (mr : MA) : ME := fun env M => (mr env M).bind fun ds M1 => if ds.length = n then f (gD ds) M1 else .bad
theorem ce_callW (C : CalW G j x ps ks g gV gD f) (hj : j ≤ k) (c : Cq G k E N sc X) (hg : sc.names.lookup x = some .globalImplicit) (ha : PK X kws (tAD G.K E mr)) (hall : (backToKw pos (keywordEach kws X.env)).all (·.1.isSome) = true := by rfl) (hks : (backToKw pos (keywordEach kws X.env)).filterMap (·.1) = ks := by rfl)
    (hdb : (x == ("__debug__" : Str)) = false := by decide +kernel) (hpl : ((backTo pos (starEach [] X.env)).any (·.1) || (backToKw pos (keywordEach kws X.env)).any (·.1.isNone)) = false := by rfl) :
    PE X (.Call (.Name x p) [] kws pos) (tD G.K E (mCallW ks.length gD f mr)) := by
  obtain rfl := c.g
  obtain ⟨fd, F, B⟩ := C.ex
  refine ⟨fun pins s σ H Q I ⟨env, L, M, he, hm, h⟩ => wpAny_Call_Name_kw (ld_glob I (show X.env.scope.names.lookup x = _ by rw [c.scq]; exact hg) C.gl (PySem.W.callWith_KW0 (h₀ := X.base) I.ok.mod.kin C.kp hall ?_ hpl) hdb)⟩
  refine thn (ha.run pos pins s σ H _ I ⟨env, L, M, he, hm, Fin.bind h⟩) fun us s1 ⟨vs, H1, I1, r, ds, M1, L1, s1', m1, r1, h1⟩ => ⟨I1.kIn, ?_⟩
  rw [hks]
  split at h1
  · next hl =>
    obtain ⟨r2, len⟩ := C.isl hl r1
    have ul : us.length = ks.length := by rw [← r.length, ← r1.length]; exact hl
    refine wpAny_call (codeAny_mono (F X.A X.stack s1 H1 ⟨[], ks.zip us⟩ (g us) (gV vs) Q E (c.room.mono hj) c.gd I1.env0 (B s1 us ul) (C.rel r) len ⟨gD ds, L1, M1, len, r2, m1, h1⟩) fun r s2 out => ?_)
    cases r with
    | error x => exact c.pass pins σ H1 s1 x s2 I1 out
    | ok flow =>
      cases flow with
      | ret u => exact I1.after out
      | _ => exact False.elim out
  · exact h1.elim
end
end Ly

namespace Ly
open PySem PySem.Spec PyProof.Rows L2
theorem sw2 {x y : Str} {a b : Expr} {px py pt : Pos} {kt : Nat} {k2 : Nat} {pt2 : Pos} {env : PySem.Env} (hk : env.scope.kind = .function) (hx : env.scope.names.lookup x = some .local) (hy : env.scope.names.lookup y = some .local)
    (hl : (py.line == px.line) = true) (hn : (y == x) = false) (h1 : ([a, b].any fun | .Starred .. => true | _ => false) = false) (h2 : [a, b].all (foldedForSure 8) = false) (h3 : [a, b].all (constantsAlone 8) = false) :
    swappedStores [.Tuple [.Name x px, .Name y py] kt pt] (.Tuple [a, b] k2 pt2) env = pure (some [x, y]) := by
  have kx : env.kindOf x = some .local := hx
  have ky : env.kindOf y = some .local := hy
  have hb : env.blockKind = .function := by unfold PySem.Env.blockKind; rw [hk]; rfl
  have lx : (px.line == px.line) = true := by simp
  have e1 : (some NameKind.local == some NameKind.local) = true := rfl
  have d : ([x, y] : List Str).eraseDups = [x, y] := by
    rw [List.eraseDups_cons, List.filter_cons, if_pos (by rw [hn]; rfl), List.filter_nil, List.eraseDups_cons, List.filter_nil]
    rfl
  unfold swappedStores
  simp only [hb, kx, ky, lx, hl, e1, h1, h2, h3, List.filterMap_cons, List.filterMap_nil, List.head?_cons, Option.map_some, Option.getD_some, Expr.pos, Bool.and_self, if_true, d]
  exact (if_neg (by simp)).trans ((if_neg (fun z => Bool.false_ne_true (h1.symm.trans z))).trans ((if_neg (by simp)).trans ((if_neg (by decide)).trans (if_neg (by decide)))))
theorem sw3 {x y z : Str} {a b d : Expr} {px py pz pt : Pos} {kt : Nat} {k2 : Nat} {pt2 : Pos} {env : PySem.Env} (hk : env.scope.kind = .function) (hx : env.scope.names.lookup x = some .local) (hy : env.scope.names.lookup y = some .local) (hz : env.scope.names.lookup z = some .local)
    (hl : (py.line == px.line) = true) (hl2 : (pz.line == px.line) = true) (hn : (y == x) = false) (hn2 : (z == x) = false) (hn3 : (z == y) = false) (h1 : ([a, b, d].any fun | .Starred .. => true | _ => false) = false) (h2 : [a, b, d].all (foldedForSure 8) = false) (h3 : [a, b, d].all (constantsAlone 8) = false) :
    swappedStores [.Tuple [.Name x px, .Name y py, .Name z pz] kt pt] (.Tuple [a, b, d] k2 pt2) env = pure (some [x, y, z]) := by
  have kx : env.kindOf x = some .local := hx
  have ky : env.kindOf y = some .local := hy
  have kz : env.kindOf z = some .local := hz
  have hb : env.blockKind = .function := by unfold PySem.Env.blockKind; rw [hk]; rfl
  have lx : (px.line == px.line) = true := by simp
  have e1 : (some NameKind.local == some NameKind.local) = true := rfl
  have dd : ([x, y, z] : List Str).eraseDups = [x, y, z] := by
    rw [List.eraseDups_cons, List.filter_cons, if_pos (by rw [hn]; rfl), List.filter_cons, if_pos (by rw [hn2]; rfl), List.filter_nil, List.eraseDups_cons, List.filter_cons, if_pos (by rw [hn3]; rfl), List.filter_nil, List.eraseDups_cons, List.filter_nil]
    rfl
  unfold swappedStores
  simp only [hb, kx, ky, kz, lx, hl, hl2, e1, h1, h2, h3, List.filterMap_cons, List.filterMap_nil, List.head?_cons, Option.map_some, Option.getD_some, Expr.pos, Bool.and_self, if_true, dd]
  exact (if_neg (by simp)).trans ((if_neg (fun w => Bool.false_ne_true (h1.symm.trans w))).trans ((if_neg (by simp)).trans ((if_neg (by decide)).trans (if_neg (by decide)))))
section
variable {G : Gd} {k : Nat} {E : XK} {N : List Str} {sc : Scope} {X : Cx} {pos : Pos} {mr : MA}
/-- a, b = x, y by the names alone -/
theorem cs_pr2 {i j : Nat} {x y : Str} {a b : Expr} {px py pt pt2 : Pos} {kt k2 : Nat} (c : Cq G k E N sc X) (hi : N[i]? = some x) (hj : N[j]? = some y) (hij : i ≠ j) (hx : sc.names.lookup x = some NameKind.local) (hy : sc.names.lookup y = some NameKind.local) (ha : PA X [a, b] (tAD G.K E mr))
    (hl : (py.line == px.line) = true := by rfl) (hn : (y == x) = false := by decide +kernel) (h1 : ([a, b].any fun | .Starred .. => true | _ => false) = false := by rfl) (h2 : [a, b].all (foldedForSure 8) = false := by rfl) (h3 : [a, b].all (constantsAlone 8) = false := by rfl)
    (hs : swapsWithSole [.Tuple [.Name x px, .Name y py] kt pt] (.Tuple [a, b] k2 pt2) pos.line X.env = pure false := by rfl) :
    PS X (.Assign [.Tuple [.Name x px, .Name y py] kt pt] (.Tuple [a, b] k2 pt2) pos) (sD G.K E (mPar2 i j mr)) :=
  cs_par2 c hi hj hij hx hy ha (sw2 (by rw [c.scq]; exact c.kd) (by rw [c.scq]; exact hx) (by rw [c.scq]; exact hy) hl hn h1 h2 h3) hs
theorem cs_pr3 {i j l : Nat} {x y z : Str} {a b d : Expr} {px py pz pt pt2 : Pos} {kt k2 : Nat} (c : Cq G k E N sc X) (hi : N[i]? = some x) (hj : N[j]? = some y) (hk : N[l]? = some z) (hij : i ≠ j) (hil : i ≠ l) (hjl : j ≠ l) (hx : sc.names.lookup x = some NameKind.local) (hy : sc.names.lookup y = some NameKind.local) (hz : sc.names.lookup z = some NameKind.local) (ha : PA X [a, b, d] (tAD G.K E mr))
    (hl : (py.line == px.line) = true := by rfl) (hl2 : (pz.line == px.line) = true := by rfl) (hn : (y == x) = false := by decide +kernel) (hn2 : (z == x) = false := by decide +kernel) (hn3 : (z == y) = false := by decide +kernel) (h1 : ([a, b, d].any fun | .Starred .. => true | _ => false) = false := by rfl) (h2 : [a, b, d].all (foldedForSure 8) = false := by rfl) (h3 : [a, b, d].all (constantsAlone 8) = false := by rfl)
    (hs : swapsWithSole [.Tuple [.Name x px, .Name y py, .Name z pz] kt pt] (.Tuple [a, b, d] k2 pt2) pos.line X.env = pure false := by rfl) :
    PS X (.Assign [.Tuple [.Name x px, .Name y py, .Name z pz] kt pt] (.Tuple [a, b, d] k2 pt2) pos) (sD G.K E (mPar3 i j l mr)) :=
  cs_par3 c hi hj hk hij hil hjl hx hy hz ha (sw3 (by rw [c.scq]; exact c.kd) (by rw [c.scq]; exact hx) (by rw [c.scq]; exact hy) (by rw [c.scq]; exact hz) hl hl2 hn hn2 hn3 h1 h2 h3) hs
end
end Ly

namespace Ly
open PySem PySem.Spec PyProof.Rows L2
/-! ### zip of two lists that stay -/
def paired (xs ys : List D) : List D := (xs.zip ys).map fun p => .tup [p.1, p.2]
theorem paired_at {xs ys : List D} {i : Nat} {d : D} (h : (paired xs ys)[i]? = some d) : ∃ x y, xs[i]? = some x ∧ ys[i]? = some y ∧ d = .tup [x, y] := by
  unfold paired at h
  rw [List.getElem?_map] at h
  obtain ⟨p, hp, rfl⟩ := Option.map_eq_some_iff.mp h
  rw [List.getElem?_zip_eq_some] at hp
  exact ⟨p.1, p.2, hp.1, hp.2, rfl⟩
def zipL (ds : List D) (M : Mem) : Res Itm := match ds with
  | [.lst xs, .lst ys] => .ok ⟨paired xs ys, fun _ => True⟩ M
  | _ => .bad
section
variable {K : PySem.W.Frag} {L : Wd} {H : Hp} {a b : Addr} {xs ys : List D}
theorem it_zip (h : ∀ L' H' M', Mv L H L' H' → MemIs K L' H' M' → ∃ vs ws, SqL K H' a vs ∧ IsL K L' H' xs vs ∧ SqL K H' b ws ∧ IsL K L' H' ys ws) : ItIs K L H ⟨paired xs ys, fun _ => True⟩ (Itz K a b) := fun L' H' M' mv m c i => by
  obtain ⟨vs, ws, q, r, q', r'⟩ := h L' H' M' mv m
  refine ⟨fun d e => ?_, fun hl => ⟨vs, ws, q, q', ?_⟩⟩
  · obtain ⟨x, y, e0, e0', rfl⟩ := paired_at e
    obtain ⟨v, e1, r1⟩ := r.get e0
    obtain ⟨w, e2, r2⟩ := r'.get e0'
    refine ⟨⟨vs, ws, v, w, q, q', e1, e2⟩, fun z H'' y => ?_⟩
    obtain ⟨T, v', w', rfl, hT, rfl, y1, y2⟩ := y
    have z1 := y1 vs q
    have z2 := y2 ws q'
    rw [e1] at z1
    rw [e2] at z2
    cases z1
    cases z2
    have st := Step.new (o := .tup [v, w]) m hT
    exact ⟨st.1, m.new hT, .tup (.inl upd_same) st.2 (.cons (r1.step st.1) (.cons (r2.step st.1) .nil))⟩
  · have : (paired xs ys).length = i := hl
    unfold paired at this
    rw [List.length_map, List.length_zip, r.length, r'.length] at this
    omega
end
section
variable {G : Gd} {k : Nat} {E : XK} {N : List Str} {sc : Scope} {X : Cx} {a b : Expr} {mr : MA} {pos p tpos : Pos}
theorem ci_zip {elts : List Expr} {kk : Nat} (c : Cq G k E N sc X) (hg : GlS sc "zip") (hm : G.mg "zip" = none) (ha : PA X [a, b] (tAD G.K E mr)) (hs : starEach [a, b] X.env = (false, eval a X.env) :: starEach [b] X.env := by rfl) (hpl : (backTo pos (starEach [b] X.env)).any (·.1) = false := by rfl) :
    PI X (.Tuple elts kk tpos) (.Call (.Name "zip" p) [a, b] [] pos) (tID G.K E (mRng zipL mr)) := by
  obtain rfl := c.g
  refine (pi_zip (c.gl hg) hm ha hs hpl).imp fun σ H R ⟨env, L, M, he, hm, h⟩ => ?_
  refine ⟨env, L, M, he, hm, Fin.imp (Fin.bind h) fun vs H1 ⟨ds, M1, L1, s1, m1, r1, h1⟩ => ?_⟩
  unfold zipL at h1
  split at h1
  · obtain ⟨v, w, rfl, q1, q2⟩ := two_inv r1
    obtain ⟨a1, vs, rfl, e1, r1⟩ := q1.lst_inv
    obtain ⟨a2, ws, rfl, e2, r2⟩ := q2.lst_inv
    refine ⟨a1, a2, vs, ws, rfl, .inl (.inl e1), .inl (.inl e2), h1.end_ m1 (it_zip fun L' H' M' mv m => ?_)⟩
    obtain ⟨b1, vs', z1, f1, g1⟩ := (q1.mv mv).lst_inv
    obtain ⟨b2, ws', z2, f2, g2⟩ := (q2.mv mv).lst_inv
    cases z1
    cases z2
    exact ⟨vs', ws', .inl (.inl f1), g1.2, .inl (.inl f2), g2.2⟩
  · exact h1.elim
theorem go_zip {M : Mem} {Q : Itm → Mem → Prop} {xs ys : List D} : Go (zipL [.lst xs, .lst ys] M) Q = Q ⟨paired xs ys, fun _ => True⟩ M := id rfl
theorem go_par2 {i j : Nat} {env : Ly.Env} {M : Mem} {S : Ly.Env → Mem → Prop} {R : D → Mem → Prop} : GoS (mPar2 i j mr env M) S R = Go (mr env M) fun ds M1 => ∃ a b, ds = [a, b] ∧ S ((env.set i (some a)).set j (some b)) M1 := by
  unfold mPar2
  rw [go_bindS]
  congr 1
  funext ds M1
  match ds with
  | [] => simp [GoS]
  | [a] => simp [GoS]
  | [a, b] => exact propext ⟨fun h => ⟨a, b, rfl, h⟩, fun ⟨_, _, e, h⟩ => by cases e; exact h⟩
  | a :: b :: c :: r => simp [GoS]
end
end Ly

namespace Ly
open PySem PySem.Spec PyProof.Rows L2
/-! ### names in the parameters' own order, two turned about -/
def flip2 {α : Type} : List α → List α
  | [a, b] => [b, a]
  | l => l
theorem vals_flip : ∀ {zs : List V} {ws : List Value}, Vals zs ws → Vals (flip2 zs) (flip2 ws)
  | _, _, .nil => .nil
  | _, _, .cons a .nil => .cons a .nil
  | _, _, .cons a (.cons b .nil) => .cons b (.cons a .nil)
  | _, _, .cons a (.cons b (.cons c d)) => .cons a (.cons b (.cons c d))
theorem isl_flip {K : PySem.W.Frag} {L : Wd} {H : Hp} : ∀ {ds : List D} {zs : List V}, IsL K L H ds zs → IsL K L H (flip2 ds) (flip2 zs)
  | _, _, .nil => .nil
  | _, _, .cons a .nil => .cons a .nil
  | _, _, .cons a (.cons b .nil) => .cons b (.cons a .nil)
  | _, _, .cons a (.cons b (.cons c d)) => .cons a (.cons b (.cons c d))
theorem len_flip {α : Type} : ∀ l : List α, (flip2 l).length = l.length
  | [] => rfl
  | [_] => rfl
  | [_, _] => rfl
  | _ :: _ :: _ :: _ => rfl
section
variable {G : Gd} {k : Nat} {N ps ks : List Str} {sc : Scope} {x qual : Str} {params : Arguments} {body : List Stmt} {kws : List (Str × V)} {fd : FuncData} {m : MS}
theorem cal_W (F : FunD G.K x qual params body sc [] kws (He.ga G.K x) fd) (S : FnScope N ps sc) (gl : G.mg x = some (.ref (He.ga G.K x))) (hl : ks.length = ps.length)
    (h : ∀ (kV doc pm : Value) (an : Option Addr) (cdv ct : Value) (us : List Value), us.length = ks.length → bindArgs (PySem.W.fnOf x qual params body sc .none kV doc pm an cdv ct) ⟨[], ks.zip us⟩ = pure (ps.zip us))
    (hb : ∀ (X : Cx) (E : XK), Cq G k E N sc X → X.fn = (fun _ => true) → PSs X body (sD G.K E m)) : CalW G (k + 1) x ps ks id id id (callD N.length m) := by
  refine ⟨⟨fd, fn_okD F S hb, ?_⟩, fun r => r, fun e r => ⟨r, by rw [← hl, ← e]; exact r.length.symm⟩, F.kp, gl⟩
  obtain ⟨oc, od, dV, kV, doc, pm, an, cdv, ct, osl, rfl, lk, hcd, hD, hK⟩ := F.ex
  rcases hD with ⟨_, rfl⟩ | ⟨e, _⟩
  · exact fun s ws hw => .of_eq (h kV doc pm an cdv ct ws hw)
  · exact absurd rfl e
/-- two names turned about -/
theorem cal_W2 (F : FunD G.K x qual params body sc [] kws (He.ga G.K x) fd) (S : FnScope N ps sc) (gl : G.mg x = some (.ref (He.ga G.K x))) (hl : ks.length = ps.length)
    (h : ∀ (kV doc pm : Value) (an : Option Addr) (cdv ct : Value) (us : List Value), us.length = ks.length → bindArgs (PySem.W.fnOf x qual params body sc .none kV doc pm an cdv ct) ⟨[], ks.zip us⟩ = pure (ps.zip (flip2 us)))
    (hb : ∀ (X : Cx) (E : XK), Cq G k E N sc X → X.fn = (fun _ => true) → PSs X body (sD G.K E m)) : CalW G (k + 1) x ps ks flip2 flip2 flip2 (callD N.length m) := by
  refine ⟨⟨fd, fn_okD F S hb, ?_⟩, vals_flip, fun e r => ⟨isl_flip r, by rw [len_flip, ← hl, ← e]; exact r.length.symm⟩, F.kp, gl⟩
  obtain ⟨oc, od, dV, kV, doc, pm, an, cdv, ct, osl, rfl, lk, hcd, hD, hK⟩ := F.ex
  rcases hD with ⟨_, rfl⟩ | ⟨e, _⟩
  · exact fun s ws hw => .of_eq (h kV doc pm an cdv ct ws hw)
  · exact absurd rfl e
end
end Ly

namespace Ly
open PySem PySem.Spec PyProof.Rows L2
/-! ### deep data of the written part, by a Bool -/
def allB2 {α β : Type} (f : α → β → Bool) : List α → List β → Bool
  | [], [] => true
  | a :: as, b :: bs => f a b && allB2 f as bs
  | _, _ => false
def datB (K : PySem.W.Frag) : Nat → D → Value → Bool
  | 0, d, u => match d, u with
    | .non, .none => true
    | .bl b, .bool c => b == c
    | .int i, .int j _ => decide (i = j)
    | .str x, .str y _ => decide (x = y)
    | _, _ => false
  | n + 1, d, u => match d, u with
    | .non, .none => true
    | .bl b, .bool c => b == c
    | .int i, .int j _ => decide (i = j)
    | .str x, .str y _ => decide (x = y)
    | .tup ds, .ref a => (match K.lookup a with
      | some ⟨.type c, _, .seq its _, _⟩ => decide (c = "tuple") && (decide (its.size ≤ sizeLine) && allB2 (datB K n) ds its.toList)
      | _ => false)
    | _, _ => false
def DatOk (K : PySem.W.Frag) (d : D) (u : Value) : Prop := ∃ v, RelV v u ∧ ∀ L H, Is K L H d v
theorem allB2_ok {K : PySem.W.Frag} {f : D → Value → Bool} (hf : ∀ d u, f d u = true → DatOk K d u) : ∀ (ds : List D) (us : List Value), allB2 f ds us = true → ∃ vs, Vals vs us ∧ ∀ L H, IsL K L H ds vs
  | [], [], _ => ⟨[], .nil, fun _ _ => .nil⟩
  | d :: ds, u :: us, h => by
    obtain ⟨v, r, i⟩ := hf d u (and_l h)
    obtain ⟨vs, rs, is⟩ := allB2_ok hf ds us (and_r h)
    exact ⟨v :: vs, .cons r rs, fun L H => .cons (i L H) (is L H)⟩
  | [], _ :: _, h => by cases h
  | _ :: _, [], h => by cases h
theorem datB_ok {K : PySem.W.Frag} : ∀ (n : Nat) (d : D) (u : Value), datB K n d u = true → DatOk K d u
  | 0, d, u, h => by
    unfold datB at h
    split at h
    · exact ⟨.non, rfl, fun _ _ => .non⟩
    · exact ⟨.bl _, by rw [beq_iff_eq.mp h]; rfl, fun _ _ => .bl _⟩
    · exact ⟨.int _, by rw [of_decide_eq_true h]; exact ⟨_, rfl⟩, fun _ _ => .int _⟩
    · exact ⟨.str _, by rw [of_decide_eq_true h]; exact ⟨_, rfl⟩, fun _ _ => .str _⟩
    · cases h
  | n + 1, d, u, h => by
    unfold datB at h
    split at h
    · exact ⟨.non, rfl, fun _ _ => .non⟩
    · exact ⟨.bl _, by rw [beq_iff_eq.mp h]; rfl, fun _ _ => .bl _⟩
    · exact ⟨.int _, by rw [of_decide_eq_true h]; exact ⟨_, rfl⟩, fun _ _ => .int _⟩
    · exact ⟨.str _, by rw [of_decide_eq_true h]; exact ⟨_, rfl⟩, fun _ _ => .str _⟩
    · rename_i ds a
      split at h
      · next c od its m sl e =>
        obtain ⟨vs, rs, is⟩ := allB2_ok (datB_ok n) ds its.toList (and_r (and_r h))
        have hc : c = "tuple" := of_decide_eq_true (and_l h)
        exact ⟨.ref a, rfl, fun L H => .tupK ⟨_, its, m, e, by rw [hc], rfl, of_decide_eq_true (and_l (and_r h)), rs⟩ (is L H)⟩
      · cases h
    · cases h
/-! ### a dict of the module with text keys -/
def entB (K : PySem.W.Frag) (kv : Str × D) (e : DictEntry) : Bool := (match e.key with
  | .str x _ => decide (x = kv.1)
  | _ => false) && datB K 4 kv.2 e.val
def tabB (K : PySem.W.Frag) (a : Addr) (kvs : List (Str × D)) : Bool := match K.lookup a with
  | some ⟨_, _, .dict es _, _⟩ => allB2 (entB K) kvs es.toList
  | _ => false
def tabGet (kvs : List (Str × D)) (z : Str) : Option D := (kvs.find? fun kv => decide (kv.1 = z)).map (·.2)
theorem ents_ok {K : PySem.W.Frag} (z : Str) : ∀ (kvs : List (Str × D)) (es : List DictEntry), allB2 (entB K) kvs es = true →
    es.any (·.refKey) = false ∧ ((tabGet kvs z = none ∧ es.find? (·.key.isStr z) = none) ∨ ∃ d e, tabGet kvs z = some d ∧ es.find? (·.key.isStr z) = some e ∧ DatOk K d e.val)
  | [], [], _ => ⟨rfl, .inl ⟨rfl, rfl⟩⟩
  | (k, d) :: kvs, e :: es, h => by
    obtain ⟨h1, h2⟩ := ents_ok z kvs es (and_r h)
    have hd := datB_ok 4 d e.val (and_r (and_l h))
    have hk := and_l (and_l h)
    split at hk
    · next x t ek =>
      have hk : x = k := of_decide_eq_true hk
      refine ⟨?_, ?_⟩
      · rw [List.any_cons, h1, Bool.or_false]
        unfold DictEntry.refKey
        rw [ek]
      · by_cases hz : k = z
        · refine .inr ⟨d, e, ?_, ?_, hd⟩
          · unfold tabGet
            rw [List.find?_cons_of_pos (by simpa using hz)]
            rfl
          · rw [List.find?_cons_of_pos]
            rw [ek, hk]
            show (k == z) = true
            exact beq_iff_eq.mpr hz
        · have e1 : tabGet ((k, d) :: kvs) z = tabGet kvs z := by
            unfold tabGet
            rw [List.find?_cons_of_neg (by simpa using hz)]
          have e2 : (e :: es).find? (·.key.isStr z) = es.find? (·.key.isStr z) := by
            rw [List.find?_cons_of_neg]
            rw [ek, hk]
            show ¬ (k == z) = true
            simpa using hz
          rw [e1, e2]
          exact h2
    · cases hk
  | [], _ :: _, h => by cases h
  | _ :: _, [], h => by cases h
theorem tabB_ok {K : PySem.W.Frag} {a : Addr} {kvs : List (Str × D)} (h : tabB K a kvs = true) (z : Str) : (tabGet kvs z = none ∧ PySem.W.nsIn K a z = some none) ∨ ∃ d u, tabGet kvs z = some d ∧ PySem.W.nsIn K a z = some (some u) ∧ DatOk K d u := by
  unfold tabB at h
  split at h
  · next oc od es n sl e =>
    obtain ⟨h1, h2⟩ := ents_ok z kvs es.toList h
    rcases h2 with ⟨g, f⟩ | ⟨d, en, g, f, r⟩
    · refine .inl ⟨g, ?_⟩
      unfold PySem.W.nsIn
      rw [e]
      show (match es.toList.find? (·.key.isStr z) with
        | some e => some (some e.val)
        | none => if es.toList.any (·.refKey) then none else some none) = _
      rw [f, h1]
      rfl
    · refine .inr ⟨d, en.val, g, ?_, r⟩
      unfold PySem.W.nsIn
      rw [e]
      show (match es.toList.find? (·.key.isStr z) with
        | some e => some (some e.val)
        | none => if es.toList.any (·.refKey) then none else some none) = _
      rw [f]
  · cases h
/-- the table at a name of the module -/
structure KTab (G : Gd) (x : Str) (kvs : List (Str × D)) : Prop where
  gl : G.mg x = some (.ref (He.ga G.K x))
  kd : ∃ es n, KDict G.K G.w (He.ga G.K x) es n
  tb : tabB G.K (He.ga G.K x) kvs = true
def opInTab (kvs : List (Str × D)) (d : D) (M : Mem) : Res D := match d with
  | .str z => .ok (.bl (tabGet kvs z).isSome) M
  | _ => .bad
def opNotInTab (kvs : List (Str × D)) (d : D) (M : Mem) : Res D := match d with
  | .str z => .ok (.bl (!(tabGet kvs z).isSome)) M
  | _ => .bad
def opTab (kvs : List (Str × D)) (d : D) (M : Mem) : Res D := match d with
  | .str z => (match tabGet kvs z with
    | some v => .ok v M
    | none => .bad)
  | _ => .bad
section
variable {G : Gd} {k : Nat} {E : XK} {N : List Str} {sc : Scope} {X : Cx} {a b e o : Expr} {ma : ME} {pos p : Pos} {x : Str} {kvs : List (Str × D)}
theorem pe_gref (c : Cq G k E N sc X) (hg : sc.names.lookup x = some .globalImplicit) (hm : G.mg x = some (.ref (He.ga G.K x))) (hd : (x == ("__debug__" : Str)) = false := by decide +kernel) : PE X (.Name x pos) (tC (.ref (He.ga G.K x))) := by
  obtain rfl := c.g
  exact pe_glob (show X.env.scope.names.lookup x = _ by rw [c.scq]; exact hg) hm rfl hd
theorem ix_kd {d : Addr} {es : Array DictEntry} {n : Nat} (D : KDict X.K X.w d es n) : IxR X (fun x y H Q => ∃ (z : Str) (u0 : Value) (v0 : V), x = .ref d ∧ y = .str z ∧ PySem.W.nsIn X.K d z = some (some u0) ∧ RelV v0 u0 ∧ Q v0 H) := by
  intro value slice pins s σ H x y v u Q I rx ry h hs
  have hv : v = .ref d := by
    obtain ⟨z, u0, v0, rfl, _⟩ := h
    exact rx
  subst hv
  exact PyProof.Rows.tail_any (kd_type D I) PySem.F.slot_dict_getitem.lookup (op_item_kd D pins s σ H x y _ u Q I rx ry h) hs
theorem ce_ixTab (t : KTab G x kvs) (c : Cq G k E N sc X) (hg : sc.names.lookup x = some .globalImplicit) (ha : PE X a (tD G.K E ma)) (hs : PlainIx a := by intro _ _; rfl) (hd : (x == ("__debug__" : Str)) = false := by decide +kernel) :
    PE X (.Subscript (.Name x p) a pos) (tD G.K E (mUn (opTab kvs) ma)) := by
  have hn := pe_gref (pos := p) c hg t.gl hd
  obtain rfl := c.g
  obtain ⟨es, n, kd⟩ := t.kd
  refine (pe_ix (ix_kd kd) hn ha hs).imp fun σ H Q ⟨env, L, M, he, hm, h⟩ => ?_
  refine ⟨env, L, M, he, hm, Fin.imp (Fin.bind h) fun y H1 ⟨d, M1, L1, s1, m1, r1, h1⟩ => ?_⟩
  unfold opTab at h1
  split at h1
  · next z =>
    split at h1
    · next v e =>
      cases r1
      rcases tabB_ok t.tb z with ⟨g, _⟩ | ⟨d, u, g, f, w, r, i⟩
      · rw [g] at e
        cases e
      · rw [g] at e
        cases e
        exact ⟨z, u, w, rfl, rfl, f, r, h1.end_ m1 (i _ _)⟩
    · exact h1.elim
  · exact h1.elim
theorem inTab_sim {f : Bool → Bool} {op : D → Mem → Res D} {r : R2} (hop : ∀ d M, op d M = (match d with
    | .str z => .ok (.bl (f (tabGet kvs z).isSome)) M
    | _ => .bad)) (hr : ∀ z (o : Option Value) H Q, PySem.W.nsIn G.K (He.ga G.K x) z = some o → Q (.bl (f o.isSome)) H → r (.str z) (.ref (He.ga G.K x)) H Q) (t : KTab G x kvs) {σ : L2.St} {H : Hp} {Q : VK} (h : tD G.K E (mUn op ma) σ H Q) : tOp r (tD G.K E ma) (tC (.ref (He.ga G.K x))) σ H Q := by
  obtain ⟨env, L, M, he, hm, h⟩ := h
  refine ⟨env, L, M, he, hm, Fin.imp (Fin.bind h) fun y H1 ⟨d, M1, L1, s1, m1, r1, h1⟩ => ?_⟩
  rw [hop] at h1
  split at h1
  · next z =>
    cases r1
    rcases tabB_ok t.tb z with ⟨g, e⟩ | ⟨d, u, g, e, _⟩
    · rw [g] at h1
      exact hr z _ _ _ e (h1.end_ m1 (.bl _))
    · rw [g] at h1
      exact hr z _ _ _ e (h1.end_ m1 (.bl _))
  · exact h1.elim
theorem ce_inTab (t : KTab G x kvs) (c : Cq G k E N sc X) (hg : sc.names.lookup x = some .globalImplicit) (ha : PE X a (tD G.K E ma)) (hd : (x == ("__debug__" : Str)) = false := by decide +kernel) :
    PE X (.Compare a [.In] [.Name x p] pos) (tD G.K E (mUn (opInTab kvs) ma)) := by
  have hn := pe_gref (pos := p) c hg t.gl hd
  obtain rfl := c.g
  obtain ⟨es, n, kd⟩ := t.kd
  exact (pe_cmpR (op_in_kd kd) ha hn rfl).imp fun σ H Q h => inTab_sim (f := id) (fun _ _ => rfl) (fun z o H Q e q => ⟨z, o, rfl, rfl, e, q⟩) t h
theorem ce_notInTab (t : KTab G x kvs) (c : Cq G k E N sc X) (hg : sc.names.lookup x = some .globalImplicit) (ha : PE X a (tD G.K E ma)) (hd : (x == ("__debug__" : Str)) = false := by decide +kernel) :
    PE X (.Compare a [.NotIn] [.Name x p] pos) (tD G.K E (mUn (opNotInTab kvs) ma)) := by
  have hn := pe_gref (pos := p) c hg t.gl hd
  obtain rfl := c.g
  obtain ⟨es, n, kd⟩ := t.kd
  exact (pe_cmpR (op_notIn_kd kd) ha hn rfl).imp fun σ H Q h => inTab_sim (f := not) (fun _ _ => rfl) (fun z o H Q e q => ⟨z, o, rfl, rfl, e, q⟩) t h
theorem ct_inTab (t : KTab G x kvs) (c : Cq G k E N sc X) (hg : sc.names.lookup x = some .globalImplicit) (ha : PE X a (tD G.K E ma)) (hd : (x == ("__debug__" : Str)) = false := by decide +kernel) :
    PT X (.Compare a [.In] [.Name x p] pos) (tTD G.K E (mTest (mUn (opInTab kvs) ma))) := by
  have hn := pe_gref (pos := p) c hg t.gl hd
  obtain rfl := c.g
  obtain ⟨es, n, kd⟩ := t.kd
  exact (pt_cmpR (op_in_kd kd) ha hn rfl).imp fun σ H Q ⟨env, L, M, he, hm, h⟩ => inTab_sim (f := id) (fun _ _ => rfl) (fun z o H Q e q => ⟨z, o, rfl, rfl, e, q⟩) t ⟨env, L, M, he, hm, test_sim h⟩
theorem ct_notInTab (t : KTab G x kvs) (c : Cq G k E N sc X) (hg : sc.names.lookup x = some .globalImplicit) (ha : PE X a (tD G.K E ma)) (hd : (x == ("__debug__" : Str)) = false := by decide +kernel) :
    PT X (.Compare a [.NotIn] [.Name x p] pos) (tTD G.K E (mTest (mUn (opNotInTab kvs) ma))) := by
  have hn := pe_gref (pos := p) c hg t.gl hd
  obtain rfl := c.g
  obtain ⟨es, n, kd⟩ := t.kd
  exact (pt_cmpR (op_notIn_kd kd) ha hn rfl).imp fun σ H Q ⟨env, L, M, he, hm, h⟩ => inTab_sim (f := not) (fun _ _ => rfl) (fun z o H Q e q => ⟨z, o, rfl, rfl, e, q⟩) t ⟨env, L, M, he, hm, test_sim h⟩
theorem go_inTab {M : Mem} {Q : D → Mem → Prop} {z : Str} : Go (opInTab kvs (.str z) M) Q = Q (.bl (tabGet kvs z).isSome) M := id rfl
theorem go_notInTab {M : Mem} {Q : D → Mem → Prop} {z : Str} : Go (opNotInTab kvs (.str z) M) Q = Q (.bl (!(tabGet kvs z).isSome)) M := id rfl
theorem go_tab {M : Mem} {Q : D → Mem → Prop} {z : Str} : Go (opTab kvs (.str z) M) Q = ∃ v, tabGet kvs z = some v ∧ Q v M := by
  have e : opTab kvs (.str z) M = (match tabGet kvs z with
    | some v => .ok v M
    | none => .bad) := rfl
  rw [e]
  cases tabGet kvs z <;> simp [Go]
end
end Ly

namespace PySem
open Sem (wp)
/-! ### zip(a, b, strict=True) over two iterators of any kind -/
abbrev IsZipS (h : Heap) (z TI TO : Addr) (f0 : Value) : Prop := h.get? z = some { cls := .type "zip", data := .fields #[f0, .bool false, .bool true, .ref TI, .ref TO] }
section
variable {prog : Program} {w : World} {A : Around} {E : Value → Shared → Prop} {s : Shared} {z TI TO i1 i2 : Addr} {fp1 fp2 : List Addr} {n1 n2 i : Nat} {P1 P2 : Nat → Value → Prop} {St1 St2 : Nat → Heap → Prop} {a1 a2 : Value}
theorem Draws.orItem {Q : Option Value → Shared → Prop} (D1 : Draws prog w A i1 fp1 n1 P1 St1) (hlt : i < n1) (st : St1 i s.heap)
    (hQ : ∀ x h' tk, P1 i x → St1 (i + 1) h' → Heap.SameBut i1 s.heap h' → Q (some x) { s with heap := h', toks := tk }) : wpAny (model prog w) A (Builtin.SmallTypes.nextOrEnd (.ref i1)) Q E s := by
  unfold Builtin.SmallTypes.nextOrEnd
  exact wpAny_bind (wpAny_attempt (D1.item i s _ _ hlt st fun x h' tk p st' hs => wpAny_pure (hQ x h' tk p st' hs)))
theorem Draws.orEnd {Q : Option Value → Shared → Prop} (D1 : Draws prog w A i1 fp1 n1 P1 St1) (st : St1 n1 s.heap)
    (hQ : ∀ h', Heap.ExtBut i1 s.heap h' → Q none { s with heap := h' }) : wpAny (model prog w) A (Builtin.SmallTypes.nextOrEnd (.ref i1)) Q E s := by
  unfold Builtin.SmallTypes.nextOrEnd
  refine wpAny_bind (wpAny_attempt (D1.done s _ _ st fun h' e hx he => ?_))
  obtain ⟨o, ho, hc⟩ := he
  refine wpAny_bind (wpAny_isInstance (T := "StopIteration") (b := true) ⟨o, ho, hc⟩ isSubtype_stop ?_)
  exact wpAny_pure (hQ _ hx)
theorem zipS_next_item {Q : Value → Shared → Prop} (S : ZipSep2 z TI TO i1 i2 fp1 fp2) (D1 : Draws prog w A i1 fp1 n1 P1 St1) (D2 : Draws prog w A i2 fp2 n2 P2 St2)
    (hz : IsZipS s.heap z TI TO .none) (hTI : IsTupOf2 s.heap TI (.ref i1) (.ref i2)) (hTO : IsTupOf2 s.heap TO a1 a2) (st1 : St1 i s.heap) (st2 : St2 i s.heap) (hlt1 : i < n1) (hlt2 : i < n2)
    (hQ : ∀ x1 x2 h' tk, P1 i x1 → P2 i x2 → IsZipS h' z TI TO (rawInt s.heap.objs.size) → IsTupOf2 h' TO x1 x2 → St1 (i + 1) h' → St2 (i + 1) h' → IsTupOf2 h' s.heap.objs.size x1 x2 → h'.objs.size = s.heap.objs.size + 1 →
      (∀ c o, c ≠ z → c ≠ TO → c ≠ i1 → c ≠ i2 → s.heap.get? c = some o → h'.get? c = some o) → Q (.ref s.heap.objs.size) { s with heap := h', toks := tk }) :
    wpAny (model prog w) A (Builtin.«zip.__next__» ⟨[.ref z], []⟩) (fun fin s' => ∃ v, fin = .done (.ret v) ∧ Q v s') E s := by
  obtain ⟨hp, g, d, tk0, os⟩ := s
  show wpAny _ _ (field (.ref z) 2 >>= _) _ _ _
  refine wpAny_bind (wpAny_field hz rfl (x := .bool true) rfl ?_)
  show wpAny _ _ (field (.ref z) 3 >>= _) _ _ _
  refine wpAny_bind (wpAny_field hz rfl (x := .ref TI) rfl ?_)
  refine wpAny_bind (wpAny_seqItems hTI rfl ?_)
  show wpAny _ _ (Builtin.SmallTypes.ownedTupleIsFree (.ref z) >>= _) _ _ _
  refine wpAny_bind ?_
  unfold Builtin.SmallTypes.ownedTupleIsFree
  refine wpAny_bind (wpAny_field hz rfl (x := .none) rfl (wpAny_pure ?_))
  simp only [if_true]
  refine wpAny_bind (wpAny_rule ?_)
  refine wpAny_bind (wpAny_field hz rfl (x := .ref TO) rfl ?_)
  refine wpAny_bind (wpAny_setField_rec hz (by simp) fun g0 hz0 hs0 => ?_)
  replace hz0 : IsZipS g0 z TI TO .ellipsis := hz0
  replace hs0 : Heap.SameBut z hp g0 := hs0
  refine wpAny_bind ?_
  simp only [List.zipIdx_cons, List.zipIdx_nil, List.forIn_cons, List.forIn_nil]
  refine wpAny_bind (wpAny_bind (wpAny_onRaise ?_))
  show wpAny _ _ (Builtin.SmallTypes.nextOrEnd (.ref i1)) _ _ ⟨g0, g, d, tk0, os⟩
  refine D1.orItem hlt1 (D1.over st1 hs0 S.zf1) fun x1 p1 tk1 hx1 sn1 hp1 => ?_
  replace hp1 : Heap.SameBut i1 g0 p1 := hp1
  have hU1 : IsTupOf2 p1 TO a1 a2 := hp1.extBut _ _ S.Ti1 (hs0.extBut _ _ S.TOz hTO)
  refine wpAny_bind (wpAny_seqItems (s := ⟨p1, g, d, tk1, os⟩) hU1 rfl ?_)
  refine wpAny_bind (updateSeq_IsTupOf2 (s := ⟨p1, g, d, tk1, os⟩) hU1 fun g1 hT1 hs1 => ?_)
  replace hT1 : IsTupOf2 g1 TO x1 a2 := hT1
  replace hs1 : Heap.SameBut TO p1 g1 := hs1
  refine wpAny_bind (wpAny_letGo (wpAny_pure ?_))
  refine wpAny_bind (wpAny_bind (wpAny_onRaise ?_))
  show wpAny _ _ (Builtin.SmallTypes.nextOrEnd (.ref i2)) _ _ ⟨g1, g, d, tk1, os⟩
  refine D2.orItem hlt2 (D2.over (D2.over (D2.over st2 hs0 S.zf2) hp1 S.sep1_2) hs1 S.Tf2) fun x2 p2 tk2 hx2 sn2 hp2 => ?_
  replace hp2 : Heap.SameBut i2 g1 p2 := hp2
  have hU2 : IsTupOf2 p2 TO x1 a2 := hp2.extBut _ _ S.Ti2 hT1
  refine wpAny_bind (wpAny_seqItems (s := ⟨p2, g, d, tk2, os⟩) hU2 rfl ?_)
  refine wpAny_bind (updateSeq_IsTupOf2 (s := ⟨p2, g, d, tk2, os⟩) hU2 fun g2 hT2 hs2 => ?_)
  replace hT2 : IsTupOf2 g2 TO x1 x2 := hT2
  replace hs2 : Heap.SameBut TO p2 g2 := hs2
  refine wpAny_bind (wpAny_letGo (wpAny_pure (wpAny_pure ?_)))
  refine wpAny_bind (wpAny_seqItems (s := ⟨g2, g, d, tk2, os⟩) hT2 rfl ?_)
  refine wpAny_bind (wpAny_newTuple ?_)
  have hsz : g2.objs.size = hp.objs.size := by rw [hs2.1, hp2.1, hs1.1, hp1.1, hs0.1]
  have hzz : IsZipS g2 z TI TO .ellipsis := (hs2.extBut _ _ S.TOz.symm (hp2.extBut _ _ S.zi2 (hs1.extBut _ _ S.TOz.symm (hp1.extBut _ _ S.zi1 hz0))))
  have hkk : ∀ c o, c ≠ z → c ≠ TO → c ≠ i1 → c ≠ i2 → hp.get? c = some o → g2.get? c = some o := fun c o cz cT c1 c2 e =>
    (hs2.extBut _ _ cT (hp2.extBut _ _ c2 (hs1.extBut _ _ cT (hp1.extBut _ _ c1 (hs0.extBut _ _ cz e)))))
  have hj1 : St1 (i + 1) g2 := (D1.over (D1.over (D1.over sn1 hs1 S.Tf1) hp2 S.sep2_1) hs2 S.Tf1)
  have hj2 : St2 (i + 1) g2 := (D2.over sn2 hs2 S.Tf2)
  have hzlt : z < g2.objs.size := Heap.lt_size hzz
  show wpAny _ _ (Builtin.SmallTypes.ownedTupleHandOut (.ref z) (.ref g2.objs.size) >>= _) _ _ ⟨g2.push { cls := .type "tuple", data := .seq #[x1, x2] }, g, d, tk2, os⟩
  refine wpAny_bind ?_
  unfold Builtin.SmallTypes.ownedTupleHandOut
  have hz6 : IsZipS (g2.push { cls := .type "tuple", data := .seq #[x1, x2] }) z TI TO .ellipsis := Heap.get?_push_of_some _ hzz
  refine wpAny_bind (wpAny_setField_rec hz6 (by simp) fun h7 hz7 hs7 => ?_)
  replace hz7 : IsZipS h7 z TI TO (rawInt g2.objs.size) := hz7
  refine wpAny_setField_rec hz7 (by simp) fun h8 hz8 hs8 => ?_
  replace hz8 : IsZipS h8 z TI TO (rawInt g2.objs.size) := hz8
  replace hs7 : Heap.SameBut z (g2.push { cls := .type "tuple", data := .seq #[x1, x2] }) h7 := hs7
  replace hs8 : Heap.SameBut z h7 h8 := hs8
  have up : ∀ c o, c ≠ z → g2.get? c = some o → h8.get? c = some o := fun c o c1 e => hs8.extBut _ _ c1 (hs7.extBut _ _ c1 (Heap.get?_push_of_some _ e))
  have hT8 : IsTupOf2 h8 g2.objs.size x1 x2 := hs8.extBut _ _ (Nat.ne_of_gt hzlt) (hs7.extBut _ _ (Nat.ne_of_gt hzlt) (Heap.get?_push_size _ rfl))
  have hzz8 : h8.objs.size = g2.objs.size + 1 := by rw [hs8.1, hs7.1, Heap.size_push]
  rw [hsz] at hz8 hT8 hzz8
  refine wpAny_pure ⟨_, rfl, ?_⟩
  show Q (.ref g2.objs.size) ⟨h8, g, d, tk2, os⟩
  rw [hsz]
  exact hQ x1 x2 h8 tk2 hx1 hx2 hz8 (up _ _ S.TOz hT2) (D1.frame _ _ _ hj1 fun b hb o e => up b o (fun q => S.zf1 (q ▸ hb)) e) (D2.frame _ _ _ hj2 fun b hb o e => up b o (fun q => S.zf2 (q ▸ hb)) e) hT8 hzz8 fun c o cz cT c1 c2 e => up c o cz (hkk c o cz cT c1 c2 e)
theorem wpAny_stop {α : Type} {Q : α → Shared → Prop} (hh : A.handled = none) (hE : ∀ h' e, (∀ b o, s.heap.get? b = some o → h'.get? b = some o) → (∃ o, h'.get? e = some o ∧ o.cls = .type "StopIteration") → E (.ref e) { s with heap := h' }) :
    wpAny (model prog w) A (Builtin.SmallTypes.stopIteration : Sem α) Q E s := by
  unfold Builtin.SmallTypes.stopIteration
  show wpAny _ _ (newExc (.type "StopIteration") [] >>= _) _ _ _
  refine wpAny_bind ?_
  simp only [newExc, newTuple]
  refine wpAny_bind (wpAny_newObj_type ?_ (by size_fits))
  refine wpAny_bind (m := firstArgMember _ _) (wpAny_of_eq (a := Value.none) (by first | rfl | (simp only [firstArgMember]; rfl)) ?_)
  refine wpAny_newObj_type ?_ (by size_fits)
  simp only [raiseNew]
  refine wpAny_bind (wpAny_handled ?_)
  rw [hh]
  refine wpAny_bind (wpAny_pure (wpAny_throw ?_))
  exact hE _ _ (fun b o e => Heap.get?_push_of_some _ (Heap.get?_push_of_some _ e)) ⟨_, Heap.get?_push_size _ rfl, rfl⟩
theorem zipS_next_end {Q : Fin → Shared → Prop} (hh : A.handled = none) (S : ZipSep2 z TI TO i1 i2 fp1 fp2) (D1 : Draws prog w A i1 fp1 n1 P1 St1) (D2 : Draws prog w A i2 fp2 n2 P2 St2)
    (hz : IsZipS s.heap z TI TO .none) (hTI : IsTupOf2 s.heap TI (.ref i1) (.ref i2)) (hTO : IsTupOf2 s.heap TO a1 a2) (st1 : St1 n1 s.heap) (st2 : St2 n2 s.heap)
    (hE : ∀ h' tk e, (∀ c o, c ≠ z → c ≠ TO → c ≠ i1 → c ≠ i2 → s.heap.get? c = some o → h'.get? c = some o) → (∃ o, h'.get? e = some o ∧ o.cls = .type "StopIteration") → E (.ref e) { s with heap := h', toks := tk }) :
    wpAny (model prog w) A (Builtin.«zip.__next__» ⟨[.ref z], []⟩) Q E s := by
  obtain ⟨hp, g, d, tk0, os⟩ := s
  show wpAny _ _ (field (.ref z) 2 >>= _) _ _ _
  refine wpAny_bind (wpAny_field hz rfl (x := .bool true) rfl ?_)
  show wpAny _ _ (field (.ref z) 3 >>= _) _ _ _
  refine wpAny_bind (wpAny_field hz rfl (x := .ref TI) rfl ?_)
  refine wpAny_bind (wpAny_seqItems hTI rfl ?_)
  show wpAny _ _ (Builtin.SmallTypes.ownedTupleIsFree (.ref z) >>= _) _ _ _
  refine wpAny_bind ?_
  unfold Builtin.SmallTypes.ownedTupleIsFree
  refine wpAny_bind (wpAny_field hz rfl (x := .none) rfl (wpAny_pure ?_))
  simp only [if_true]
  refine wpAny_bind (wpAny_rule ?_)
  refine wpAny_bind (wpAny_field hz rfl (x := .ref TO) rfl ?_)
  refine wpAny_bind (wpAny_setField_rec hz (by simp) fun g0 hz0 hs0 => ?_)
  replace hz0 : IsZipS g0 z TI TO .ellipsis := hz0
  replace hs0 : Heap.SameBut z hp g0 := hs0
  refine wpAny_bind ?_
  simp only [List.zipIdx_cons, List.zipIdx_nil, List.forIn_cons, List.forIn_nil]
  refine wpAny_bind (wpAny_bind (wpAny_onRaise ?_))
  show wpAny _ _ (Builtin.SmallTypes.nextOrEnd (.ref i1)) _ _ ⟨g0, g, d, tk0, os⟩
  refine D1.orEnd (D1.over st1 hs0 S.zf1) fun q1 hq1 => ?_
  replace hq1 : Heap.ExtBut i1 g0 q1 := hq1
  have hzq : IsZipS q1 z TI TO .ellipsis := hq1 _ _ S.zi1 hz0
  refine wpAny_bind (wpAny_setField_rec (s := ⟨q1, g, d, tk0, os⟩) hzq (by simp) fun q2 hz2 hq2 => ?_)
  replace hq2 : Heap.SameBut z q1 q2 := hq2
  have st2' : St2 n2 q2 := D2.over (D2.frame _ _ _ (D2.over st2 hs0 S.zf2) fun b hb o e => hq1 _ _ (fun (x : b = i1) => S.sep1_2 (x ▸ hb)) e) hq2 S.zf2
  refine wpAny_bind ?_
  refine wpAny_bind ?_
  simp only [List.drop_succ_cons, List.drop_zero, List.zipIdx_cons, List.zipIdx_nil, List.forIn_cons, List.forIn_nil]
  refine wpAny_bind ?_
  refine wpAny_bind (D2.orEnd st2' fun q3 hq3 => ?_)
  replace hq3 : Heap.ExtBut i2 q2 q3 := hq3
  refine wpAny_pure ?_
  refine wpAny_pure ?_
  refine wpAny_bind (wpAny_rule ?_)
  refine wpAny_stop hh fun h' e hk he => ?_
  exact hE h' tk0 e (fun c o cz cT c1 c2 x => hk _ _ (hq3 _ _ c2 (hq2.extBut _ _ cz (hq1 _ _ c1 (hs0.extBut _ _ cz x))))) he
end
end PySem

namespace PySem
open Sem (wp)
abbrev IsZipB (b : Bool) (h : Heap) (z TI TO : Addr) (f0 : Value) : Prop := h.get? z = some { cls := .type "zip", data := .fields #[f0, .bool false, .bool b, .ref TI, .ref TO] }
section
variable {prog : Program} {w : World} {A : Around} {E : Value → Shared → Prop} {s : Shared} {z TI TO i1 i2 : Addr} {fp1 fp2 : List Addr} {n1 n2 i : Nat} {P1 P2 : Nat → Value → Prop} {St1 St2 : Nat → Heap → Prop} {a1 a2 : Value}
theorem pyNext_zipB_item (b : Bool) {Q : Option Value → Shared → Prop} (S : ZipSep2 z TI TO i1 i2 fp1 fp2) (D1 : Draws prog w A.in1 i1 fp1 n1 P1 St1) (D2 : Draws prog w A.in1 i2 fp2 n2 P2 St2)
    (hz : IsZipB b s.heap z TI TO .none) (hTI : IsTupOf2 s.heap TI (.ref i1) (.ref i2)) (hTO : IsTupOf2 s.heap TO a1 a2) (st1 : St1 i s.heap) (st2 : St2 i s.heap) (hlt1 : i < n1) (hlt2 : i < n2)
    (hQ : ∀ x1 x2 h' tk, P1 i x1 → P2 i x2 → IsZipB b h' z TI TO (rawInt s.heap.objs.size) → IsTupOf2 h' TO x1 x2 → St1 (i + 1) h' → St2 (i + 1) h' → IsTupOf2 h' s.heap.objs.size x1 x2 → h'.objs.size = s.heap.objs.size + 1 →
      (∀ c o, c ≠ z → c ≠ TO → c ≠ i1 → c ≠ i2 → s.heap.get? c = some o → h'.get? c = some o) → Q (some (.ref s.heap.objs.size)) { s with heap := h', toks := tk }) :
    wpAny (model prog w) A (pyNext (.ref z)) Q E s := by
  cases b with
  | false => exact wpAny_pyNext_zipD2_item S D1 D2 hz hTI hTO st1 st2 hlt1 hlt2 hQ
  | true =>
    have hT : s.TypeIs (.ref z) "zip" := ⟨_, hz, rfl⟩
    unfold pyNext
    exact wpAny_bind (wpAny_attempt (wpAny_callSpecial?_slot (name := Str.ofString "__next__") hT F.slot_zip_next
      (wpAny_call_entry F.slot_zip_next hT F.entry_zip_next
        (zipS_next_item S D1 D2 hz hTI hTO st1 st2 hlt1 hlt2 fun x1 x2 h' tk y1 y2 b1 b2 d1 d2 b5 b6 b7 => wpAny_pure (hQ x1 x2 h' tk y1 y2 b1 b2 d1 d2 b5 b6 b7)) (F.args_zip_next_1 _))))
theorem pyNext_zipB_end (b : Bool) {Q : Option Value → Shared → Prop} (hh : A.handled = none) (S : ZipSep2 z TI TO i1 i2 fp1 fp2) (D1 : Draws prog w A.in1 i1 fp1 n1 P1 St1) (D2 : Draws prog w A.in1 i2 fp2 n2 P2 St2)
    (hz : IsZipB b s.heap z TI TO .none) (hTI : IsTupOf2 s.heap TI (.ref i1) (.ref i2)) (hTO : IsTupOf2 s.heap TO a1 a2) (st1 : St1 i s.heap) (st2 : St2 i s.heap) (hle1 : i ≤ n1) (hle2 : i ≤ n2) (hend : i = n1 ∨ i = n2) (hb : b = true → i = n1 ∧ i = n2)
    (hQ : ∀ h' tk, (∀ c o, c ≠ z → c ≠ TO → c ≠ i1 → c ≠ i2 → s.heap.get? c = some o → h'.get? c = some o) → Q none { s with heap := h', toks := tk }) : wpAny (model prog w) A (pyNext (.ref z)) Q E s := by
  cases b with
  | false => exact wpAny_pyNext_zipD2_end S D1 D2 hz hTI hTO st1 st2 hle1 hle2 hend hQ
  | true =>
    obtain ⟨e1, e2⟩ := hb rfl
    have hT : s.TypeIs (.ref z) "zip" := ⟨_, hz, rfl⟩
    unfold pyNext
    refine wpAny_bind (wpAny_attempt (wpAny_callSpecial?_slot (name := Str.ofString "__next__") hT F.slot_zip_next
      (wpAny_call_entry F.slot_zip_next hT F.entry_zip_next (zipS_next_end hh S D1 D2 hz hTI hTO (by rw [← e1]; exact st1) (by rw [← e2]; exact st2) fun h' tk e hk he => ?_) (F.args_zip_next_1 _))))
    obtain ⟨o, ho, hc⟩ := he
    refine wpAny_bind (wpAny_isInstance (T := "StopIteration") (b := true) ⟨o, ho, hc⟩ isSubtype_stop ?_)
    exact wpAny_pure (hQ _ _ hk)
theorem letOwnedTupleGo_zipB (b : Bool) {elts : List Expr} {x1} {pos : Pos} {T : Addr} {Q : Unit → Shared → Prop} (hz : IsZipB b s.heap z TI TO (rawInt T))
    (hQ : ∀ h', IsZipB b h' z TI TO .none → Heap.SameBut z s.heap h' → Q () { s with heap := h' }) :
    wpAny (model prog w) A (letOwnedTupleGo (.Tuple elts x1 pos) (.ref z) (.ref T)) Q E s := by
  unfold letOwnedTupleGo
  refine wpAny_bind (wpAny_load hz ?_)
  show wpAny _ _ (if (["enumerate", "zip", "dict_itemiterator", "dict_reverseitemiterator", "odict_iterator", "itertools.zip_longest", "itertools.pairwise"].contains "zip" &&
      (#[rawInt T, .bool false, .bool b, .ref TI, .ref TO] : Array Value)[0]? == some (rawInt T)) = true then _ else _) Q E s
  rw [if_pos (by simp)]
  refine wpAny_bind (wpAny_rule ?_)
  show wpAny _ _ (setField (.ref z) 0 .none) Q E s
  exact wpAny_setField_rec hz (by simp) fun h' hz' hs' => hQ h' hz' hs'
theorem pyIter_zipB (b : Bool) {f0 : Value} {Q : Value → Shared → Prop} (hz : IsZipB b s.heap z TI TO f0) (h : Q (.ref z) s) : wpAny (model prog w) A (pyIter (.ref z)) Q E s := by
  have hT : s.TypeIs (.ref z) "zip" := ⟨_, hz, rfl⟩
  refine wpAny_pyIter_slot hT F.slot_zip_iter (wpAny_call_entry F.slot_zip_iter hT F.entry_zip_iter ?_ (F.args_zip_iter_1 _))
  show wpAny _ _ (ret (.ref z)) _ _ s
  exact wpAny_pure ⟨_, rfl, "zip", _, hT, F.slot_zip_next.lookup, h⟩
end
/-! ### it begins -/
theorem F.typeCall_zip_strict (a b c : Value) : checkTypeCall "zip" ⟨[a, b], [(Str.ofString "strict", c)]⟩ = pure () := by kernel_rfl
theorem F.newCall_zip_strict (a b c : Value) : checkBuiltinCall "zip.__new__" ⟨[.type "zip", a, b], [(Str.ofString "strict", c)]⟩ = pure () := by kernel_rfl
theorem F.args_object_init_strict (obj a b c : Value) : argsOk "object.__init__" ⟨[obj, a, b], [(Str.ofString "strict", c)]⟩ := by unfold argsOk; kernel_rfl
abbrev gzS2 (h : Heap) (o1 o2 : Obj) : Heap := (gzO2 h o1 o2).push { cls := .type "zip", data := .fields #[.none, .bool false, .bool true, .ref ((h.push o1).push o2).objs.size, .ref (gzT2 h o1 o2).objs.size] }
set_option maxHeartbeats 1000000 in
theorem meets_zip_newS2 {v1 v2 : Value} {o1 o2 : Obj} {H1 H2 : Heap → Prop} (B1 : Begins v1 o1 H1) (B2 : Begins v2 o2 H2) :
    Meets (Builtin.«zip.__new__» ⟨[.type "zip", v1, v2], [(Str.ofString "strict", .bool true)]⟩) (fun _ R s => (H1 s.heap ∧ H2 s.heap) ∧
      R (.ok (.ret (.ref (gzO2 s.heap o1 o2).objs.size))) { s with heap := gzS2 s.heap o1 o2 }) :=
  .of_wp fun prog w A R s h => by
    obtain ⟨hp, g, d, tk, os⟩ := s; obtain ⟨⟨h1, h2⟩, h⟩ := h
    have hsub := sub_zip
    have q1 : ∀ {A' : Around} {E : Value → Shared → Prop} {Q : Value → Shared → Prop}, Q (.ref hp.objs.size) ⟨(hp.push o1), g, d, tk, os⟩ → wpAny (model prog w) A' (pyIter v1) Q E ⟨hp, g, d, tk, os⟩ :=
      fun q => B1.iter prog w _ _ ⟨hp, g, d, tk, os⟩ _ (B1.keeps _ _ h1 fun b o' e => e) q
    have q2 : ∀ {A' : Around} {E : Value → Shared → Prop} {Q : Value → Shared → Prop}, Q (.ref (hp.push o1).objs.size) ⟨((hp.push o1).push o2), g, d, tk, os⟩ → wpAny (model prog w) A' (pyIter v2) Q E ⟨(hp.push o1), g, d, tk, os⟩ :=
      fun q => B2.iter prog w _ _ ⟨(hp.push o1), g, d, tk, os⟩ _ (B2.keeps _ _ h2 fun b o' e => (Heap.get?_push_of_some _ e)) q
    have e2 : (Str.ofString "strict" != ("strict" : Str)) = false := by decide +kernel
    wp_walk using q1, q2
    exact ⟨_, rfl, h⟩
section
variable {prog : Program} {w : World} {A : Around} {E : Value → Shared → Prop} {s : Shared}
theorem zip_beginsS {v1 v2 : Value} {o1 o2 : Obj} {H1 H2 : Heap → Prop} {Q : Value → Shared → Prop} (B1 : Begins v1 o1 H1) (B2 : Begins v2 o2 H2) (h1 : H1 s.heap) (h2 : H2 s.heap)
    (h : ∀ h', IsZipB true h' (s.heap.objs.size + 4) (s.heap.objs.size + 2) (s.heap.objs.size + 3) .none → IsTupOf2 h' (s.heap.objs.size + 2) (.ref s.heap.objs.size) (.ref (s.heap.objs.size + 1)) →
      IsTupOf2 h' (s.heap.objs.size + 3) .none .none → h'.get? s.heap.objs.size = some o1 → h'.get? (s.heap.objs.size + 1) = some o2 → h'.objs.size = s.heap.objs.size + 5 →
      (∀ c o, s.heap.get? c = some o → h'.get? c = some o) → Q (.ref (s.heap.objs.size + 4)) { s with heap := h' }) :
    wpAny (model prog w) A (call (.type "zip") [v1, v2] [(Str.ofString "strict", .bool true)]) Q E s := by
  refine callType_newKw F.called_zip (by decide) (F.typeCall_zip_strict _ _ _) (F.newCall_zip_strict _ _ _) (fun obj => F.args_object_init_strict obj _ _ _) F.entry_zip_new
    (meets_zip_newS2 B1 B2) ⟨⟨h1, h2⟩, ?_⟩
  have z1 : (s.heap.push o1).objs.size = s.heap.objs.size + 1 := by rw [Heap.size_push]
  have z2 : ((s.heap.push o1).push o2).objs.size = s.heap.objs.size + 2 := by rw [Heap.size_push, z1]
  have zT : (gzT2 s.heap o1 o2).objs.size = s.heap.objs.size + 3 := by rw [Heap.size_push, z2]
  have zO : (gzO2 s.heap o1 o2).objs.size = s.heap.objs.size + 4 := by rw [Heap.size_push, zT]
  have zZ : (gzS2 s.heap o1 o2).objs.size = s.heap.objs.size + 5 := by rw [Heap.size_push, zO]
  have gZ : (gzS2 s.heap o1 o2).get? (gzO2 s.heap o1 o2).objs.size = some { cls := .type "zip", data := .fields #[.none, .bool false, .bool true, .ref ((s.heap.push o1).push o2).objs.size, .ref (gzT2 s.heap o1 o2).objs.size] } := Heap.get?_push_size _ rfl
  have gO : (gzS2 s.heap o1 o2).get? (gzT2 s.heap o1 o2).objs.size = some { cls := .type "tuple", data := .seq #[.none, .none] } := Heap.get?_push_of_some _ (Heap.get?_push_size _ rfl)
  have gT : (gzS2 s.heap o1 o2).get? ((s.heap.push o1).push o2).objs.size = some { cls := .type "tuple", data := .seq #[.ref s.heap.objs.size, .ref (s.heap.push o1).objs.size] } := Heap.get?_push_of_some _ (Heap.get?_push_of_some _ (Heap.get?_push_size _ rfl))
  have g1 : (gzS2 s.heap o1 o2).get? s.heap.objs.size = some o1 := Heap.get?_push_of_some _ (Heap.get?_push_of_some _ (Heap.get?_push_of_some _ (Heap.get?_push_of_some _ (Heap.get?_push_size _ B1.free))))
  have g2 : (gzS2 s.heap o1 o2).get? (s.heap.push o1).objs.size = some o2 := Heap.get?_push_of_some _ (Heap.get?_push_of_some _ (Heap.get?_push_of_some _ (Heap.get?_push_size _ B2.free)))
  rw [zO, zT, z2] at gZ
  rw [zT] at gO
  rw [z2, z1] at gT
  rw [z1] at g2
  show _ ∧ _
  rw [zO]
  exact ⟨⟨_, gZ, rfl⟩, h _ gZ gT gO g1 g2 zZ fun c o e => Heap.get?_push_of_some _ (Heap.get?_push_of_some _ (Heap.get?_push_of_some _ (Heap.get?_push_of_some _ (Heap.get?_push_of_some _ e))))⟩
end
section
variable {M : Model} {A : Around} {E : Value → Shared → Prop} {s : Shared} {env : Env}
theorem callWith_typeKw {pos : Pos} {T : String} {e : Expr} {rest : List Expr} {kws : List Keyword} {Q : Value → Shared → Prop}
    (h : wpAny M A (spliced (backTo pos (starEach (e :: rest) env))) (fun vs s1 => wpAny M A (evalAll ((backToKw pos (keywordEach kws env)).map (·.2)))
      (fun kvs s2 => wpAny M A (call (.type T) vs (((backToKw pos (keywordEach kws env)).filterMap (·.1)).zip kvs)) Q E s2) E s1) E s)
    (he : backTo pos (starEach (e :: rest) env) = (false, eval e env) :: backTo pos (starEach rest env) := by rfl)
    (hplain : (backTo pos (starEach (e :: rest) env)).any (·.1) = false := by rfl)
    (hall : (backToKw pos (keywordEach kws env)).all (·.1.isSome) = true := by rfl)
    (hkw : (backToKw pos (keywordEach kws env)).any (·.1.isNone) = false := by rfl) :
    wpAny M A (callWith pos (.type T) [] (backTo pos (starEach (e :: rest) env)) (backToKw pos (keywordEach kws env))) Q E s := by
  have h2 : wpAny M A (evalArgs (.type T) true (backTo pos (starEach (e :: rest) env)) (backToKw pos (keywordEach kws env))) (fun a s1 => wpAny M A (call (.type T) ([] ++ a.pos) a.kw) Q E s1) E s := by
    rw [he] at h ⊢
    exact PyProof.Rows.evalArgs_kwB hall h
  unfold callWith
  refine wpAny_bind (wpAny_holding (wpAny_mono h2 (fun a s1 h1 => wpAny_bind (wpAny_standAt ?_)) fun _ _ x => x))
  simp only [hplain, hkw, Bool.or_false]
  refine wpAny_bind (wpAny_pure ?_)
  exact wpAny_bind (wpAny_mono h1 (fun r s2 hr => wpAny_bind (wpAny_holding (wpAny_point (wpAny_pure hr)))) fun _ _ x => x)
end
end PySem

namespace L2
open PySem PySem.Spec PyProof.Rows
/-! ### zip over lists, tuples, texts, strict or not -/
inductive Src where
  | l (a : Addr) | t (a : Addr) | s (z : Str)
def Src.has (K : PySem.W.Frag) (H : Hp) : Src → List V → Prop
  | .l a, xs => SqL K H a xs
  | .t a, xs => SqT K H a xs
  | .s z, xs => xs = z.cps.toList.map fun c => .str ⟨#[c]⟩
def Src.it (i1 : Addr) (n : Nat) (h : Heap) : Src → Prop
  | .l a => h.IsListIter i1 a n
  | .t a => h.IsTupleIter i1 a n
  | .s z => ∃ t, h.IsStrIter i1 (strIterType z) z t n
def Src.fp (i1 : Addr) : Src → List Addr
  | .l a => [i1, a]
  | .t a => [i1, a]
  | .s _ => [i1]
def Src.ne (c : Addr) : Src → Prop
  | .l a => a ≠ c
  | .t a => a ≠ c
  | .s _ => True
theorem Src.fp_mem {src : Src} {i1 : Addr} : i1 ∈ src.fp i1 := by cases src <;> simp [Src.fp]
theorem Src.fp_not {src : Src} {i1 c : Addr} (h : c ≠ i1) (n : src.ne c) : c ∉ src.fp i1 := by
  cases src with
  | l a => simp only [Src.fp, List.mem_cons, List.not_mem_nil, or_false]; exact fun z => z.elim h fun z => n z.symm
  | t a => simp only [Src.fp, List.mem_cons, List.not_mem_nil, or_false]; exact fun z => z.elim h fun z => n z.symm
  | s z => simp only [Src.fp, List.mem_cons, List.not_mem_nil, or_false]; exact h
theorem Src.it_obj {src : Src} {i1 : Addr} {n : Nat} {h : Heap} (st : src.it i1 n h) : ∃ o, h.get? i1 = some o ∧ ∀ v, o.data ≠ .cell v := by
  cases src with
  | l a => obtain ⟨o, e, _, d⟩ := st; exact ⟨o, e, fun v q => by rw [d] at q; cases q⟩
  | t a => obtain ⟨o, e, _, d⟩ := st; exact ⟨o, e, fun v q => by rw [d] at q; cases q⟩
  | s z => obtain ⟨_, o, e, _, d⟩ := st; exact ⟨o, e, fun v q => by rw [d] at q; cases q⟩
theorem Src.it_keep {src : Src} {i1 : Addr} {n : Nat} {h h' : Heap} (st : src.it i1 n h) (k : ∀ o, h.get? i1 = some o → h'.get? i1 = some o) : src.it i1 n h' := by
  cases src with
  | l a => exact st.at k
  | t a => exact st.at k
  | s z => obtain ⟨t, o, e, r⟩ := st; exact ⟨t, o, k o e, r⟩
section
variable {X : Cx}
theorem Src.draws {src : Src} {i1 : Addr} {i : Nat} {pins : List (Addr × Obj)} {σ : St} {H : Hp} {s : Shared} {xs : List V} (hh : X.A.handled = none) (I : Inv X pins σ H s) (ne : src.ne i1) (hq : src.has X.K H xs) (st : src.it i1 i s.heap) :
    ∃ (n : Nat) (P : Nat → Value → Prop) (St : Nat → Heap → Prop), Draws X.prog X.w X.A.in1 i1 (src.fp i1) n P St ∧ n = xs.length ∧ St i s.heap ∧ (∀ k h, St k h → src.it i1 k h) ∧ ∀ k u x, P k u → xs[k]? = some x → RelV x u := by
  have hh1 : X.A.in1.handled = none := hh
  cases src with
  | l a =>
    obtain ⟨its, rv, p, _⟩ := I.list hq
    refine ⟨_, _, _, Draws.list hh1 i1 a ne its.toArray, ?_, ⟨st, p.isList⟩, fun k h z => z.1, fun k u x hu hx => ?_⟩
    · rw [List.size_toArray, rv.length]
    · obtain ⟨u', hu', r⟩ := rv.get hx
      have : its[k]? = some u := by simpa using hu
      rw [hu'] at this
      cases this
      exact r
  | t a =>
    obtain ⟨its, rv, p, _⟩ := I.tuple hq
    refine ⟨_, _, _, Draws.tuple hh1 i1 a ne its.toArray, ?_, ⟨st, p⟩, fun k h z => z.1, fun k u x hu hx => ?_⟩
    · rw [List.size_toArray, rv.length]
    · obtain ⟨u', hu', r⟩ := rv.get hx
      have : its[k]? = some u := by simpa using hu
      rw [hu'] at this
      cases this
      exact r
  | s z =>
    obtain ⟨t, st⟩ := st
    refine ⟨_, _, _, Draws.text hh1 i1 z t, ?_, st, fun k h z => ⟨t, z⟩, fun k u x hu hx => ?_⟩
    · rw [show xs = _ from hq, List.length_map, Array.length_toList]
    · obtain ⟨c, tk, hc, rfl⟩ := hu
      rw [show xs = _ from hq, List.getElem?_map] at hx
      obtain ⟨c', hc', rfl⟩ := Option.map_eq_some_iff.mp hx
      have : z.cps[k]? = some c' := by simpa using hc'
      rw [this] at hc
      cases hc
      exact ⟨_, rfl⟩
theorem Src.inj {src : Src} {pins : List (Addr × Obj)} {σ : St} {H : Hp} {s : Shared} (I : Inv X pins σ H s) {xs ys : List V} (h : src.has X.K H xs) (h' : src.has X.K H ys) : xs = ys := by
  cases src with
  | l a => exact I.list_inj h h'
  | t a => exact I.tuple_inj h h'
  | s z => exact (show xs = _ from h).trans (show ys = _ from h').symm
end
def ItZ (K : PySem.W.Frag) (b : Bool) (s1 s2 : Src) : It :=
  ⟨fun i H => ∃ (xs ys : List V) (x y : V), s1.has K H xs ∧ s2.has K H ys ∧ xs[i]? = some x ∧ ys[i]? = some y,
    fun i H v H' => ∃ T x y, v = .ref T ∧ H T = none ∧ H' = upd H T (.tup [x, y]) ∧ (∀ xs, s1.has K H xs → xs[i]? = some x) ∧ ∀ ys, s2.has K H ys → ys[i]? = some y,
    fun i H => ∃ xs ys : List V, s1.has K H xs ∧ s2.has K H ys ∧ i ≤ xs.length ∧ i ≤ ys.length ∧ (i = xs.length ∨ i = ys.length) ∧ (b = true → i = xs.length ∧ i = ys.length)⟩
structure ZApart (z TI TO i1 i2 : Addr) (s1 s2 : Src) : Prop where
  S : ZipSep2 z TI TO i1 i2 (s1.fp i1) (s2.fp i2)
  n1 : s1.ne i1
  n2 : s2.ne i2
theorem turn_zipB {P : Program} {w : World} {K : PySem.W.Frag} (b : Bool) {elts : List Expr} {kk : Nat} {tpos : Pos} {s1 s2 : Src} {z TI TO i1 i2 : Addr} (D : ZApart z TI TO i1 i2 s1 s2) :
    Turn P w K (.Tuple elts kk tpos) (ItZ K b s1 s2) [z, TI, TO, i1, i2] z (fun i h => IsZipB b h z TI TO .none ∧ IsTupOf2 h TI (.ref i1) (.ref i2) ∧ (∃ x y, IsTupOf2 h TO x y) ∧ s1.it i1 i h ∧ s2.it i2 i h) where
  mem := by simp
  obj := fun i h st c hc => by
    obtain ⟨hz, hTI, ⟨x, y, hTO⟩, h1, h2⟩ := st
    have e' : c = z ∨ c = TI ∨ c = TO ∨ c = i1 ∨ c = i2 := by simpa using hc
    rcases e' with q | q | q | q | q
    · rw [q]; exact ⟨_, hz, fun v q => nomatch q⟩
    · rw [q]; exact ⟨_, hTI, fun v q => nomatch q⟩
    · rw [q]; exact ⟨_, hTO, fun v q => nomatch q⟩
    · rw [q]; exact Src.it_obj h1
    · rw [q]; exact Src.it_obj h2
  keep := fun i h h' st k => by
    obtain ⟨hz, hTI, ⟨x, y, hTO⟩, h1, h2⟩ := st
    exact ⟨k z (by simp) _ hz, k TI (by simp) _ hTI, ⟨x, y, k TO (by simp) _ hTO⟩, Src.it_keep h1 fun o q => k i1 (by simp) o q, Src.it_keep h2 fun o q => k i2 (by simp) o q⟩
  item := by
    intro X hP hw hK hc i pins s σ H E I hf st hg
    subst hP hw hK
    obtain ⟨hz, hTI, ⟨x0, y0, hTO⟩, h1, h2⟩ := st
    obtain ⟨xs, ys, x, y, hqx, hqy, hx, hy⟩ := hg
    obtain ⟨m1, P1, St1, D1, e1, t1, g1, v1⟩ := Src.draws (I.ok.hd hc) I D.n1 hqx h1
    obtain ⟨m2, P2, St2, D2, e2, t2, g2, v2⟩ := Src.draws (I.ok.hd hc) I D.n2 hqy h2
    have hzl : z < s.heap.objs.size := Heap.lt_size hz
    refine pyNext_zipB_item b D.S D1 D2 hz hTI hTO t1 t2 (by rw [e1]; exact (List.getElem?_eq_some_iff.mp hx).1) (by rw [e2]; exact (List.getElem?_eq_some_iff.mp hy).1) fun u u2 h' tk pu pu2 z' TO' h1' h2' hT hsz hk => ?_
    have ru := v1 i u x pu hx
    have ru2 := v2 i u2 y pu2 hy
    refine ⟨_, rfl, letOwnedTupleGo_zipB (s := { s with heap := h', toks := tk }) b z' fun h'' z'' sb => ?_⟩
    have hT2 : h''.get? s.heap.objs.size = some { cls := .type "tuple", data := .seq #[u, u2] } := (sb.2 _ (Nat.ne_of_gt hzl)).trans hT
    have new : ObjOk X.prog X.w (upd H s.heap.objs.size (.tup [x, y])) h'' s.heap.objs.size (.tup [x, y]) :=
      ⟨by show 2 ≤ sizeLine; decide, [u, u2], .cons ru (.cons ru2 .nil), ⟨_, hT2, rfl, _, rfl⟩⟩
    have I1 : Inv X pins σ (upd H s.heap.objs.size (.tup [x, y])) { s with heap := h'', toks := tk } :=
      I.turnedNew (t' := tk) (ch := [z, TI, TO, i1, i2]) (fun c o hb q => (sb.2 c (fun q' => hb (by simp [q']))).trans (hk c o (fun q' => hb (by simp [q'])) (fun q' => hb (by simp [q'])) (fun q' => hb (by simp [q'])) (fun q' => hb (by simp [q'])) q)) hf (Nat.le_refl _) new
    refine ⟨.ref s.heap.objs.size, _, I1, rfl, ⟨_, x, y, rfl, I.hok.fresh (Nat.le_refl _), rfl, fun l hl => by rw [Src.inj I hl hqx]; exact hx, fun l hl => by rw [Src.inj I hl hqy]; exact hy⟩, ⟨z'', ?_, ⟨u, u2, ?_⟩, ?_, ?_⟩, fun c hcm => ?_⟩
    · exact (sb.2 _ D.S.TIz).trans (hk _ _ D.S.TIz D.S.TITO D.S.TIi1 D.S.TIi2 hTI)
    · exact (sb.2 _ D.S.TOz).trans TO'
    · exact Src.it_keep (g1 _ _ h1') fun o q => (sb.2 _ D.S.zi1.symm).trans q
    · exact Src.it_keep (g2 _ _ h2') fun o q => (sb.2 _ D.S.zi2.symm).trans q
    · have hlt : c < s.heap.objs.size := by
        have e' : c = z ∨ c = TI ∨ c = TO ∨ c = i1 ∨ c = i2 := by simpa using hcm
        rcases e' with q | q | q | q | q
        · rw [q]; exact hzl
        · rw [q]; exact Heap.lt_size hTI
        · rw [q]; exact Heap.lt_size hTO
        · rw [q]; obtain ⟨_, e1, _⟩ := Src.it_obj h1; exact Heap.lt_size e1
        · rw [q]; obtain ⟨_, e2, _⟩ := Src.it_obj h2; exact Heap.lt_size e2
      rw [upd_ne (Nat.ne_of_lt hlt)]
      exact (hf c hcm).1
  done := by
    intro X hP hw hK hc i pins s σ H E I hf st hg
    subst hP hw hK
    obtain ⟨hz, hTI, ⟨x0, y0, hTO⟩, h1, h2⟩ := st
    obtain ⟨xs, ys, hqx, hqy, l1, l2, hend, hb⟩ := hg
    obtain ⟨m1, P1, St1, D1, e1, t1, g1, v1⟩ := Src.draws (I.ok.hd hc) I D.n1 hqx h1
    obtain ⟨m2, P2, St2, D2, e2, t2, g2, v2⟩ := Src.draws (I.ok.hd hc) I D.n2 hqy h2
    exact pyNext_zipB_end b (I.ok.hd hc) D.S D1 D2 hz hTI hTO t1 t2 (by rw [e1]; exact l1) (by rw [e2]; exact l2) (by rw [e1, e2]; exact hend) (by rw [e1, e2]; exact hb) fun h' tk hk => ⟨rfl, I.turnedL (t' := tk) (ch := [z, TI, TO, i1, i2]) (fun c o hb q =>
      hk c o (fun q' => hb (by simp [q'])) (fun q' => hb (by simp [q'])) (fun q' => hb (by simp [q'])) (fun q' => hb (by simp [q'])) q) hf⟩
  self := fun A i s Q E st h => pyIter_zipB b st.1 h
/-- a value as a source -/
def SrcV (K : PySem.W.Frag) (H : Hp) (src : Src) (v : V) : Prop := match src with
  | .l a => v = .ref a ∧ ∃ xs, SqL K H a xs
  | .t a => v = .ref a ∧ ∃ xs, SqT K H a xs
  | .s z => v = .str z
theorem Src.begins {X : Cx} {src : Src} {pins : List (Addr × Obj)} {σ : St} {H : Hp} {s : Shared} {v : V} {u : Value} (I : Inv X pins σ H s) (hs : SrcV X.K H src v) (r : RelV v u) :
    ∃ (o : Obj) (Hh : Heap → Prop), Begins u o Hh ∧ Hh s.heap ∧ (∀ c, s.heap.objs.size ≤ c → src.ne c) ∧ ∀ (h : Heap) (i1 : Addr), h.get? i1 = some o → src.it i1 0 h := by
  cases src with
  | l a =>
    obtain ⟨rfl, xs, hq⟩ := hs
    cases r
    obtain ⟨its, rv, p, _⟩ := I.list hq
    exact ⟨_, _, begins_list a its.toArray, p.isList, fun c hc z => absurd p.lt (by rw [show a = c from z]; exact Nat.not_lt.mpr hc), fun h i1 e => ⟨_, e, rfl, rfl⟩⟩
  | t a =>
    obtain ⟨rfl, xs, hq⟩ := hs
    cases r
    obtain ⟨its, rv, p, _⟩ := I.tuple hq
    have p' : s.heap.IsTuple a its.toArray := p
    obtain ⟨o1, ho1, _⟩ := id p'
    have := Heap.lt_size ho1
    exact ⟨_, _, begins_tuple a its.toArray, p', fun c hc z => absurd this (by rw [show a = c from z]; exact Nat.not_lt.mpr hc), fun h i1 e => ⟨_, e, rfl, rfl⟩⟩
  | s z =>
    obtain rfl : v = .str z := hs
    obtain ⟨t, rfl⟩ := r
    exact ⟨_, _, begins_text z t, trivial, fun _ _ => trivial, fun h i1 e => ⟨t, _, e, rfl, rfl⟩⟩
theorem ane {a b : Nat} (h : a ≠ b) : @Ne Addr a b := h
theorem z_apart {src1 src2 : Src} {n : Nat} (h1 : ∀ c : Addr, n ≤ c → src1.ne c) (h2 : ∀ c : Addr, n ≤ c → src2.ne c) : ZApart (n + 4) (n + 2) (n + 3) n (n + 1) src1 src2 := by
  have k0 : ∀ k : Nat, n ≤ n + k := fun k => Nat.le_add_right _ _
  refine ⟨⟨ane (by omega), ane (by omega), ane (by omega), ane (by omega), Src.fp_mem, Src.fp_not (ane (by omega)) (h1 _ (k0 4)), Src.fp_not (ane (by omega)) (h1 _ (k0 3)), ane (by omega), Src.fp_mem, Src.fp_not (ane (by omega)) (h2 _ (k0 4)), Src.fp_not (ane (by omega)) (h2 _ (k0 3)), Src.fp_not (ane (by omega)) (h2 _ (k0 0)), Src.fp_not (ane (by omega)) (h1 _ (k0 1))⟩, h1 _ (k0 0), h2 _ (k0 1)⟩
def iZipB (K : PySem.W.Frag) (b : Bool) (ta : TA) : TI := fun σ H R => ta σ H fun vs H1 => ∃ s1 s2 v1 v2, vs = [v1, v2] ∧ SrcV K H1 s1 v1 ∧ SrcV K H1 s2 v2 ∧ R (ItZ K b s1 s2) H1
theorem fresh5 {X : Cx} {pins : List (Addr × Obj)} {σ : St} {H1 : Hp} {s1 : Shared} (I1 : Inv X pins σ H1 s1) : ∀ c, c ∈ [s1.heap.objs.size + 4, s1.heap.objs.size + 2, s1.heap.objs.size + 3, s1.heap.objs.size, s1.heap.objs.size + 1] → FpOk X pins H1 c := fun c hcm => by
  have e' : c = s1.heap.objs.size + 4 ∨ c = s1.heap.objs.size + 2 ∨ c = s1.heap.objs.size + 3 ∨ c = s1.heap.objs.size ∨ c = s1.heap.objs.size + 1 := by simpa using hcm
  have hle : s1.heap.objs.size ≤ c := by
    rcases e' with z | z | z | z | z
    · rw [z]; exact Nat.le_add_right _ _
    · rw [z]; exact Nat.le_add_right _ _
    · rw [z]; exact Nat.le_add_right _ _
    · rw [z]; exact Nat.le_refl _
    · rw [z]; exact Nat.le_add_right _ _
  exact I1.fpOk hle (I1.hok.fresh hle)
theorem pi_zipB {X : Cx} {e e2 : Expr} {ta : TA} {p pos tpos : Pos} {elts : List Expr} {kk : Nat} (hg : Gl X "zip") (hm : X.mg "zip" = none) (ha : PA X [e, e2] ta)
    (hs : starEach [e, e2] X.env = (false, eval e X.env) :: starEach [e2] X.env := by rfl) (hpl : (backTo pos (starEach [e2] X.env)).any (·.1) = false := by rfl) :
    PI X (.Tuple elts kk tpos) (.Call (.Name "zip" p) [e, e2] [] pos) (iZipB X.K false ta) := by
  refine ⟨fun pins s σ H R I h => ?_⟩
  refine Call_ (ld_blt I hg hm PyProof.Rows.boot_zip (PyProof.Rows.callWith_type1 (thn (ha.run pos pins s σ H _ I h) fun us s1 ⟨vs, H1, I1, r1, q1⟩ => ?_) hs hpl))
  obtain ⟨s1', s2', v1, v2, rfl, hs1, hs2, q⟩ := q1
  cases r1 with
  | cons r rr =>
    cases rr with
    | cons r' rr =>
      cases rr
      obtain ⟨o1, H1', B1, b1, n1, t1⟩ := Src.begins I1 hs1 r
      obtain ⟨o2, H2', B2, b2, n2, t2⟩ := Src.begins I1 hs2 r'
      refine zip_begins2 B1 B2 b1 b2 fun h' hz hTI hTO g1 g2 hsz hk => pyIter_zipB false hz ?_
      have I2 : Inv X pins σ H1 { s1 with heap := h' } := I1.kept (t' := s1.toks) hk
      exact ⟨_, _, _, _, H1, rfl, I2, turn_zipB false (z_apart n1 n2), ⟨hz, hTI, ⟨_, _, hTO⟩, t1 _ _ g1, t2 _ _ g2⟩, fresh5 I1, q⟩
theorem pi_zipS {X : Cx} {e e2 : Expr} {ta : TA} {p pos tpos kpos p3 : Pos} {elts : List Expr} {kk j3 : Nat} (hg : Gl X "zip") (hm : X.mg "zip" = none) (ha : PA X [e, e2] ta)
    (he : backTo pos (starEach [e, e2] X.env) = (false, eval e X.env) :: backTo pos (starEach [e2] X.env) := by rfl) (hpl : (backTo pos (starEach [e, e2] X.env)).any (·.1) = false := by rfl) :
    PI X (.Tuple elts kk tpos) (.Call (.Name "zip" p) [e, e2] [⟨some "strict", .Constant (.bool true) j3 p3, kpos⟩] pos) (iZipB X.K true ta) := by
  refine ⟨fun pins s σ H R I h => ?_⟩
  refine wpAny_Call_Name_kw (ld_blt I hg hm PyProof.Rows.boot_zip ?_)
  refine callWith_typeKw (thn (ha.run pos pins s σ H _ I h) fun us s1 ⟨vs, H1, I1, r1, q1⟩ => ?_) he hpl rfl rfl
  refine thn ((pk_cons (nm := some "strict") (kpos := kpos) (pe_bl (X := X) (b := true) (j := j3) (pos := p3)) pk_nil).run pos pins s1 σ H1 (fun zs H2 => zs = [.bl true] ∧ H2 = H1) I1 ⟨rfl, rfl⟩) fun ws s2 ⟨zs, H2, I2, r2, ez, eh⟩ => ?_
  subst ez
  subst eh
  cases r2 with
  | cons rb rr =>
    cases rr
    obtain rfl := rb
    obtain ⟨s1', s2', v1, v2, rfl, hs1, hs2, q⟩ := q1
    cases r1 with
    | cons r rr =>
      cases rr with
      | cons r' rr =>
        cases rr
        obtain ⟨o1, H1', B1, b1, n1, t1⟩ := Src.begins I2 hs1 r
        obtain ⟨o2, H2', B2, b2, n2, t2⟩ := Src.begins I2 hs2 r'
        refine zip_beginsS B1 B2 b1 b2 fun h' hz hTI hTO g1 g2 hsz hk => pyIter_zipB true hz ?_
        have I3 : Inv X pins σ H2 { s2 with heap := h' } := I2.kept (t' := s2.toks) hk
        exact ⟨_, _, _, _, H2, rfl, I3, turn_zipB true (z_apart n1 n2), ⟨hz, hTI, ⟨_, _, hTO⟩, t1 _ _ g1, t2 _ _ g2⟩, fresh5 I2, q⟩
end L2
namespace Ly
open PySem PySem.Spec PyProof.Rows L2
/-! ### zip over data -/
def zipItm (b : Bool) (t u : Itm) : Option Itm := if b && !decide (t.items.length = u.items.length) then none else some ⟨paired t.items u.items, fun M => t.chk M ∧ u.chk M⟩
def zipF (b : Bool) (ds : List D) (M : Mem) : Res Itm := match ds with
  | [x, y] => (match itemsOf x M, itemsOf y M with
    | some t, some u => (match zipItm b t u with
      | some r => .ok r M
      | none => .bad)
    | _, _ => .bad)
  | _ => .bad
section
variable {K : PySem.W.Frag} {L : Wd} {H : Hp} {M : Mem} {t u : Itm} {v : V}
theorem sq3_src (h : Sq3 K L H t v) : ∃ src, SrcV K H src v ∧ ∀ L' H' M', Mv L H L' H' → MemIs K L' H' M' → t.chk M' → ∃ vs, src.has K H' vs ∧ IsL K L' H' t.items vs := by
  cases h with
  | lst ex go => exact ⟨.l _, ⟨rfl, ex⟩, go⟩
  | tup ex go => exact ⟨.t _, ⟨rfl, ex⟩, go⟩
  | @str z es =>
    refine ⟨.s z, rfl, fun L' H' M' mv m c => ⟨_, rfl, ?_⟩⟩
    rw [es]
    generalize z.cps.toList = l
    induction l with
    | nil => exact .nil
    | cons c l ih => exact .cons (.str _) ih
theorem it_zipB {b : Bool} {s1 s2 : Src} {r : Itm} (hr : zipItm b t u = some r) (h1 : ∀ L' H' M', Mv L H L' H' → MemIs K L' H' M' → t.chk M' → ∃ vs, s1.has K H' vs ∧ IsL K L' H' t.items vs)
    (h2 : ∀ L' H' M', Mv L H L' H' → MemIs K L' H' M' → u.chk M' → ∃ vs, s2.has K H' vs ∧ IsL K L' H' u.items vs) : ItIs K L H r (ItZ K b s1 s2) := fun L' H' M' mv m c i => by
  unfold zipItm at hr
  split at hr
  · cases hr
  · next hb =>
    cases hr
    obtain ⟨vs, q, r⟩ := h1 L' H' M' mv m c.1
    obtain ⟨ws, q', r'⟩ := h2 L' H' M' mv m c.2
    refine ⟨fun d e => ?_, fun hl => ⟨vs, ws, q, q', ?_⟩⟩
    · obtain ⟨x, y, e0, e0', rfl⟩ := paired_at e
      obtain ⟨v, e1, r1⟩ := r.get e0
      obtain ⟨w, e2, r2⟩ := r'.get e0'
      refine ⟨⟨vs, ws, v, w, q, q', e1, e2⟩, fun z H'' y => ?_⟩
      obtain ⟨T, v', w', rfl, hT, rfl, y1, y2⟩ := y
      have z1 := y1 vs q
      have z2 := y2 ws q'
      rw [e1] at z1
      rw [e2] at z2
      cases z1
      cases z2
      have st := Step.new (o := .tup [v, w]) m hT
      exact ⟨st.1, m.new hT, .tup (.inl upd_same) st.2 (.cons (r1.step st.1) (.cons (r2.step st.1) .nil))⟩
    · have hl : (paired t.items u.items).length = i := hl
      unfold paired at hl
      rw [List.length_map, List.length_zip, r.length, r'.length] at hl
      refine ⟨by omega, by omega, by omega, fun hb' => ?_⟩
      subst hb'
      have : t.items.length = u.items.length := by simpa using hb
      rw [r.length, r'.length] at this
      omega
end
section
variable {G : Gd} {k : Nat} {E : XK} {N : List Str} {sc : Scope} {X : Cx} {a b : Expr} {mr : MA} {pos p tpos kpos p3 : Pos}
theorem zip_sim {bb : Bool} {σ : L2.St} {H : Hp} {R : It → Hp → Prop} (h : tID G.K E (mRng (zipF bb) mr) σ H R) : iZipB G.K bb (tAD G.K E mr) σ H R := by
  obtain ⟨env, L, M, he, hm, h⟩ := h
  refine ⟨env, L, M, he, hm, Fin.imp (Fin.bind h) fun vs H1 ⟨ds, M1, L1, s1, m1, r1, h1⟩ => ?_⟩
  unfold zipF at h1
  split at h1
  · obtain ⟨v, w, rfl, q1, q2⟩ := two_inv r1
    split at h1
    · next t u ht hu =>
      split at h1
      · next r hr =>
        obtain ⟨src1, sv1, g1⟩ := sq3_src (itemsOf_ok m1 q1 ht)
        obtain ⟨src2, sv2, g2⟩ := sq3_src (itemsOf_ok m1 q2 hu)
        exact ⟨src1, src2, v, w, rfl, sv1, sv2, h1.end_ m1 (it_zipB hr g1 g2)⟩
      · exact h1.elim
    · exact h1.elim
  · exact h1.elim
theorem ci_zipB {elts : List Expr} {kk : Nat} (c : Cq G k E N sc X) (hg : GlS sc "zip") (hm : G.mg "zip" = none) (ha : PA X [a, b] (tAD G.K E mr)) (hs : starEach [a, b] X.env = (false, eval a X.env) :: starEach [b] X.env := by rfl) (hpl : (backTo pos (starEach [b] X.env)).any (·.1) = false := by rfl) :
    PI X (.Tuple elts kk tpos) (.Call (.Name "zip" p) [a, b] [] pos) (tID G.K E (mRng (zipF false) mr)) := by
  obtain rfl := c.g
  exact (pi_zipB (c.gl hg) hm ha hs hpl).imp fun σ H R h => zip_sim h
theorem ci_zipS {elts : List Expr} {kk j3 : Nat} (c : Cq G k E N sc X) (hg : GlS sc "zip") (hm : G.mg "zip" = none) (ha : PA X [a, b] (tAD G.K E mr)) (he : backTo pos (starEach [a, b] X.env) = (false, eval a X.env) :: backTo pos (starEach [b] X.env) := by rfl) (hpl : (backTo pos (starEach [a, b] X.env)).any (·.1) = false := by rfl) :
    PI X (.Tuple elts kk tpos) (.Call (.Name "zip" p) [a, b] [⟨some "strict", .Constant (.bool true) j3 p3, kpos⟩] pos) (tID G.K E (mRng (zipF true) mr)) := by
  obtain rfl := c.g
  exact (pi_zipS (c.gl hg) hm ha he hpl).imp fun σ H R h => zip_sim h
theorem go_zipS {M : Mem} {Q : Itm → Mem → Prop} {x y : D} {t u : Itm} (ht : itemsOf x M = some t) (hu : itemsOf y M = some u) : Go (zipF true [x, y] M) Q = (t.items.length = u.items.length ∧ Q ⟨paired t.items u.items, fun M => t.chk M ∧ u.chk M⟩ M) := by
  by_cases h : t.items.length = u.items.length
  · have e : zipF true [x, y] M = .ok ⟨paired t.items u.items, fun M => t.chk M ∧ u.chk M⟩ M := by
      unfold zipF
      simp only [ht, hu, zipItm, h, decide_true, Bool.not_true, Bool.and_false, Bool.false_eq_true, if_false]
    rw [e]
    exact propext ⟨fun q => ⟨h, q⟩, fun q => q.2⟩
  · have e : zipF true [x, y] M = .bad := by
      unfold zipF
      simp only [ht, hu, zipItm, h, decide_false, Bool.not_false, Bool.and_true, if_true]
    rw [e]
    exact propext ⟨fun q => q.elim, fun q => (h q.1).elim⟩
theorem go_zipP {M : Mem} {Q : Itm → Mem → Prop} {x y : D} {t u : Itm} (ht : itemsOf x M = some t) (hu : itemsOf y M = some u) : Go (zipF false [x, y] M) Q = Q ⟨paired t.items u.items, fun M => t.chk M ∧ u.chk M⟩ M := by
  have e : zipF false [x, y] M = .ok ⟨paired t.items u.items, fun M => t.chk M ∧ u.chk M⟩ M := by
    unfold zipF
    simp only [ht, hu, zipItm, Bool.false_and, Bool.false_eq_true, if_false]
  rw [e]
  rfl
end
end Ly

namespace Ly
open PySem PySem.Spec PyProof.Rows L2
/-! ### two fors in a list comprehension -/
section
variable {G : Gd} {k : Nat} {E : XK} {N : List Str} {sc : Scope} {X : Cx} {a b e : Expr} {ma mb : ME} {pos : Pos}
/-- the turns of one for, whatever comes behind them -/
theorem comp_turns {it : Itm} {J : It} {g : GD} {t : MT} {el : ME} {vs : List Nat} {env : Ly.Env} {σ : L2.St} {p : Addr} {L1 Lb : Wd} {H1 Hb : Hp} {kk : List D → Mem → Res D} {Q : VK} (hsl : ∀ i ∈ g.sl, i ∈ vs) (hp : H1 p = none) (op : Out L1 p)
    (r1 : ItIs G.K Lb Hb it J) (e1 : EnvIs G.K Lb Hb env σ) (End : Hp → Prop)
    (hend : ∀ H' L' M' acc avs, Step L1 H1 L' H' → Mv Lb Hb (L'.hide p) H' → MemIs G.K (L'.hide p) H' M' → H' p = some (.lst avs) → IsL G.K (L'.hide p) H' acc avs → Fin (Is G.K) G.K E L1 H1 (kk acc M') Q → End H')
    {H0 : Hp} {L0 : Wd} {M0 : Mem} {acc0 : List D} {avs0 : List V} (s0 : Step L1 H1 L0 H0) (mv0 : Mv Lb Hb (L0.hide p) H0) (m0 : MemIs G.K (L0.hide p) H0 M0) (q0 : H0 p = some (.lst avs0)) (a0 : IsL G.K (L0.hide p) H0 acc0 avs0)
    (h0 : Fin (Is G.K) G.K E L1 H1 ((compL g t el it.chk (wipeD env vs) it.items acc0 M0).bind kk) Q) :
    ∃ W : Nat → Nat → Hp → Prop, (∃ m, W 0 m H0) ∧ ∀ i m H, W i m H →
      (J.stop i H ∧ End H) ∨ (J.go i H ∧ ∃ Nx : Hp → Prop, (∀ H', Nx H' → ∃ m', m' < m ∧ W (i + 1) m' H') ∧ ∀ x H', J.yld i H x H' → gtD G.K g x (L2.wipe σ vs) H' fun σ2 H2 => L2.wipe σ2 vs = L2.wipe σ vs ∧ tTD G.K E0 t σ2 H2 fun b H3 =>
        if b = true then tD G.K E0 el σ2 H3 fun y H4 => ∃ acc, H4 p = some (.lst acc) ∧ acc.length < sizeLine ∧ Nx (upd H4 p (.lst (acc ++ [y]))) else Nx H3) := by
  refine ⟨fun i n H' => ∃ L' M' acc avs, n = it.items.length - i ∧ i ≤ it.items.length ∧ Step L1 H1 L' H' ∧ Mv Lb Hb (L'.hide p) H' ∧ MemIs G.K (L'.hide p) H' M' ∧ H' p = some (.lst avs) ∧ IsL G.K (L'.hide p) H' acc avs ∧
      Fin (Is G.K) G.K E L1 H1 ((compL g t el it.chk (wipeD env vs) (it.items.drop i) acc M').bind kk) Q,
    ⟨_, L0, M0, acc0, avs0, rfl, Nat.zero_le _, s0, mv0, m0, q0, a0, h0⟩, ?_⟩
  rintro i n H2 ⟨L2, M2, acc, avs, rfl, hi', s2, mv2, m2, q2, a2, h2⟩
  by_cases hlt : i < it.items.length
  · rw [List.drop_eq_getElem_cons hlt] at h2
    unfold compL at h2
    split at h2
    · rename_i hc
      have itx := r1 (L2.hide p) H2 M2 mv2 m2 hc i
      obtain ⟨go, yl⟩ := itx.1 _ (List.getElem?_eq_getElem hlt)
      refine .inr ⟨go, fun H3 => ∃ L' M' acc avs, Step L1 H1 L' H3 ∧ Mv Lb Hb (L'.hide p) H3 ∧ MemIs G.K (L'.hide p) H3 M' ∧ H3 p = some (.lst avs) ∧ IsL G.K (L'.hide p) H3 acc avs ∧
        Fin (Is G.K) G.K E L1 H1 ((compL g t el it.chk (wipeD env vs) (it.items.drop (i + 1)) acc M').bind kk) Q, fun H3 ⟨L', M', acc, avs, x1, x2, x3, x4, x5, x6⟩ => ⟨_, by omega, L', M', acc, avs, rfl, hlt, x1, x2, x3, x4, x5, x6⟩, fun x H3 y => ?_⟩
      obtain ⟨s3, m3, r3⟩ := yl x H3 y
      cases q : g.f it.items[i] (wipeD env vs) with
      | none =>
        rw [q] at h2
        exact h2.elim
      | some env3 =>
        rw [q] at h2
        refine ⟨wipeD env vs, L2.hide p, M2, _, env3, ((e1.mv mv2).step s3).wipe vs, m3, r3, q, fun H4 σ4 s4 m4 e4 c4 => ⟨wipe_chg c4 hsl, env3, L2.hide p, M2, e4, m4, ?_⟩⟩
        replace s3 := s3.trans s4
        replace h2 : Fin (Is G.K) G.K E L1 H1 (((noX (t env3 M2)).bind fun c M1 => if c then (noX (el env3 M1)).bind fun y M2 => if szOk (acc.length + 1) then compL g t el it.chk (wipeD env vs) (it.items.drop (i + 1)) (acc ++ [y]) M2 else .bad else compL g t el it.chk (wipeD env vs) (it.items.drop (i + 1)) acc M1).bind kk) Q := h2
        cases ht : t env3 M2 with
        | bad =>
          rw [ht] at h2
          exact h2.elim
        | exc x M =>
          rw [ht] at h2
          exact h2.elim
        | ok c M4 =>
          rw [ht] at h2
          intro L5 H5 b5 s5 m5 r5
          cases r5
          have mv5 : Mv Lb Hb L5 H5 := mv2.trans (s3.trans s5).mv
          obtain ⟨L5', rfl, s15⟩ := s2.over hp (s3.trans s5)
          have q5 : H5 p = some (.lst avs) := ((s3.trans s5).hid p List.mem_cons_self).trans q2
          have a5 := a2.step (s3.trans s5)
          cases c with
          | false =>
            rw [if_neg Bool.false_ne_true]
            exact ⟨L5', M4, acc, avs, s15, mv5, m5, q5, a5, h2⟩
          | true =>
            rw [if_pos rfl]
            refine ⟨env3, L5'.hide p, M4, e4.step s5, m5, ?_⟩
            replace h2 : Fin (Is G.K) G.K E L1 H1 (((noX (el env3 M4)).bind fun y M2 => if szOk (acc.length + 1) then compL g t el it.chk (wipeD env vs) (it.items.drop (i + 1)) (acc ++ [y]) M2 else .bad).bind kk) Q := h2
            cases hy : el env3 M4 with
            | bad =>
              rw [hy] at h2
              exact h2.elim
            | exc x M =>
              rw [hy] at h2
              exact h2.elim
            | ok yd M6 =>
              rw [hy] at h2
              intro L7 H7 yv s7 m7 r7
              have mv7 : Mv Lb Hb L7 H7 := mv5.trans s7.mv
              obtain ⟨L7', rfl, s17⟩ := s2.over hp ((s3.trans s5).trans s7)
              have q7 : H7 p = some (.lst avs) := (((s3.trans s5).trans s7).hid p List.mem_cons_self).trans q2
              have a7 := a2.step ((s3.trans s5).trans s7)
              replace h2 : Fin (Is G.K) G.K E L1 H1 ((if szOk (acc.length + 1) then compL g t el it.chk (wipeD env vs) (it.items.drop (i + 1)) (acc ++ [yd]) M6 else .bad).bind kk) Q := h2
              split at h2
              · rename_i hz
                refine ⟨avs, q7, ?_, L7', M6, acc ++ [yd], avs ++ [yv], s17.built op.2 hp, mv7.trans Mv.built, m7.built, upd_same, (a7.append (.cons r7 .nil)).mv Mv.built, h2⟩
                have := szOk.le hz
                rw [a7.length] at this
                omega
              · exact h2.elim
    · exact h2.elim
  · have e : i = it.items.length := by omega
    subst e
    rw [List.drop_length] at h2
    unfold compL at h2
    split at h2
    · rename_i hc
      exact .inl ⟨(r1 (L2.hide p) H2 M2 mv2 m2 hc _).2 rfl, hend H2 L2 M2 acc avs s2 mv2 m2 q2 a2 h2⟩
    · exact h2.elim
open Classical in
noncomputable def compL2 (g : GD) (t : MT) (mi1 : MI) (g1 : GD) (t1 : MT) (el : ME) (vs1 : List Nat) (chk : Mem → Prop) (env : Ly.Env) : List D → List D → Mem → Res (List D)
  | [], acc, M => if chk M then .ok acc M else .bad
  | d :: ds, acc, M => if chk M then (match g.f d env with
      | some env' => (noX (t env' M)).bind fun c M1 => if c then (noX (mi1 env' M1)).bind fun it1 M2 => (compL g1 t1 el it1.chk (wipeD env' vs1) it1.items acc M2).bind fun acc' M3 => compL2 g t mi1 g1 t1 el vs1 chk env ds acc' M3 else compL2 g t mi1 g1 t1 el vs1 chk env ds acc M1
      | none => .bad) else .bad
noncomputable def mLc2 (mi : MI) (g : GD) (t : MT) (mi1 : MI) (g1 : GD) (t1 : MT) (el : ME) (vs vs1 : List Nat) : ME := fun env M => (mi env M).bind fun it M1 => (compL2 g t mi1 g1 t1 el vs1 it.chk (wipeD env vs) it.items [] M1).bind fun ds M2 => .ok (.lst ds) M2
theorem bind_assoc {α β γ : Type} (r : Res α) (f : α → Mem → Res β) (h : β → Mem → Res γ) : (r.bind f).bind h = r.bind fun a M => (f a M).bind h := by
  cases r <;> rfl
theorem lc2_sim {mi mi1 : MI} {g g1 : GD} {t t1 : MT} {el : ME} {vs vs1 : List Nat} (hsl : ∀ i ∈ g.sl, i ∈ vs) (hsl1 : ∀ i ∈ g1.sl, i ∈ vs1) {σ : L2.St} {H : Hp} {Q : VK} (h : tD G.K E (mLc2 mi g t mi1 g1 t1 el vs vs1) σ H Q) :
    tLc2 (tID G.K E mi) (gtD G.K g) (tTD G.K E0 t) (tID G.K E0 mi1) (gtD G.K g1) (tTD G.K E0 t1) (tD G.K E0 el) vs vs1 σ H Q := by
  obtain ⟨env, L, M, he, hm, h⟩ := h
  refine ⟨env, L, M, he, hm, Fin.imp (Fin.bind h) fun J H1 ⟨it, M1, L1, s1, m1, r1, h1⟩ p hp => ?_⟩
  have e1 := he.step s1
  have op := m1.out hp
  refine ⟨fun i n H' => ∃ L' M' acc avs, n = it.items.length - i ∧ i ≤ it.items.length ∧ Step L1 H1 L' H' ∧ MemIs G.K (L'.hide p) H' M' ∧ H' p = some (.lst avs) ∧ IsL G.K (L'.hide p) H' acc avs ∧
      Fin (Is G.K) G.K E L1 H1 ((compL2 g t mi1 g1 t1 el vs1 it.chk (wipeD env vs) (it.items.drop i) acc M').bind fun ds M2 => .ok (.lst ds) M2) Q,
    ⟨_, L1, M1, [], [], rfl, Nat.zero_le _, (Step.new m1 hp).1, m1.hide hp, upd_same, .nil, h1⟩, ?_⟩
  rintro i n H2 ⟨L2, M2, acc, avs, rfl, hi', s2, m2, q2, a2, h2⟩
  have mv2 : Mv L1 H1 (L2.hide p) H2 := s2.mvHide hp
  by_cases hlt : i < it.items.length
  · rw [List.drop_eq_getElem_cons hlt] at h2
    unfold compL2 at h2
    split at h2
    · rename_i hc
      have itx := r1 (L2.hide p) H2 M2 mv2 m2 hc i
      obtain ⟨go, yl⟩ := itx.1 _ (List.getElem?_eq_getElem hlt)
      refine .inr ⟨go, fun H3 => ∃ L' M' acc avs, Step L1 H1 L' H3 ∧ MemIs G.K (L'.hide p) H3 M' ∧ H3 p = some (.lst avs) ∧ IsL G.K (L'.hide p) H3 acc avs ∧
        Fin (Is G.K) G.K E L1 H1 ((compL2 g t mi1 g1 t1 el vs1 it.chk (wipeD env vs) (it.items.drop (i + 1)) acc M').bind fun ds M2 => .ok (.lst ds) M2) Q, fun H3 ⟨L', M', acc, avs, x1, x2, x3, x4, x5⟩ => ⟨_, by omega, L', M', acc, avs, rfl, hlt, x1, x2, x3, x4, x5⟩, fun x H3 y => ?_⟩
      obtain ⟨s3, m3, r3⟩ := yl x H3 y
      cases q : g.f it.items[i] (wipeD env vs) with
      | none =>
        rw [q] at h2
        exact h2.elim
      | some env3 =>
        rw [q] at h2
        refine ⟨wipeD env vs, L2.hide p, M2, _, env3, ((e1.mv mv2).step s3).wipe vs, m3, r3, q, fun H4 σ4 s4 m4 e4 c4 => ⟨wipe_chg c4 hsl, env3, L2.hide p, M2, e4, m4, ?_⟩⟩
        replace s3 := s3.trans s4
        replace h2 : Fin (Is G.K) G.K E L1 H1 (((noX (t env3 M2)).bind fun c M1 => if c then (noX (mi1 env3 M1)).bind fun it1 M2 => (compL g1 t1 el it1.chk (wipeD env3 vs1) it1.items acc M2).bind fun acc' M3 => compL2 g t mi1 g1 t1 el vs1 it.chk (wipeD env vs) (it.items.drop (i + 1)) acc' M3 else compL2 g t mi1 g1 t1 el vs1 it.chk (wipeD env vs) (it.items.drop (i + 1)) acc M1).bind fun ds M2 => .ok (.lst ds) M2) Q := h2
        cases ht : t env3 M2 with
        | bad =>
          rw [ht] at h2
          exact h2.elim
        | exc x M =>
          rw [ht] at h2
          exact h2.elim
        | ok c M4 =>
          rw [ht] at h2
          intro L5 H5 b5 s5 m5 r5
          cases r5
          obtain ⟨L5', rfl, s15⟩ := s2.over hp (s3.trans s5)
          have q5 : H5 p = some (.lst avs) := ((s3.trans s5).hid p List.mem_cons_self).trans q2
          have a5 := a2.step (s3.trans s5)
          cases c with
          | false =>
            rw [if_neg Bool.false_ne_true]
            exact ⟨L5', M4, acc, avs, s15, m5, q5, a5, h2⟩
          | true =>
            rw [if_pos rfl]
            refine ⟨env3, L5'.hide p, M4, e4.step s5, m5, ?_⟩
            replace h2 : Fin (Is G.K) G.K E L1 H1 (((noX (mi1 env3 M4)).bind fun it1 M2 => (compL g1 t1 el it1.chk (wipeD env3 vs1) it1.items acc M2).bind fun acc' M3 => compL2 g t mi1 g1 t1 el vs1 it.chk (wipeD env vs) (it.items.drop (i + 1)) acc' M3).bind fun ds M2 => .ok (.lst ds) M2) Q := h2
            cases hy : mi1 env3 M4 with
            | bad =>
              rw [hy] at h2
              exact h2.elim
            | exc x M =>
              rw [hy] at h2
              exact h2.elim
            | ok it1 M6 =>
              rw [hy] at h2
              intro L7 H7 J1 s7 m7 r7
              obtain ⟨L7', rfl, s17⟩ := s2.over hp ((s3.trans s5).trans s7)
              have q7 : H7 p = some (.lst avs) := (((s3.trans s5).trans s7).hid p List.mem_cons_self).trans q2
              have a7 := a2.step ((s3.trans s5).trans s7)
              replace h2 : Fin (Is G.K) G.K E L1 H1 ((compL g1 t1 el it1.chk (wipeD env3 vs1) it1.items acc M6).bind fun acc' M3 => (compL2 g t mi1 g1 t1 el vs1 it.chk (wipeD env vs) (it.items.drop (i + 1)) acc' M3).bind fun ds M2 => .ok (.lst ds) M2) Q := by
                have h2 : Fin (Is G.K) G.K E L1 H1 (((compL g1 t1 el it1.chk (wipeD env3 vs1) it1.items acc M6).bind fun acc' M3 => compL2 g t mi1 g1 t1 el vs1 it.chk (wipeD env vs) (it.items.drop (i + 1)) acc' M3).bind fun ds M2 => .ok (.lst ds) M2) Q := h2
                rw [bind_assoc] at h2
                exact h2
              refine comp_turns hsl1 hp op r7 ((e4.step s5).step s7) _ (fun H' L' M' acc' avs' x1 x2 x3 x4 x5 x6 => ?_) s17 Mv.refl m7 q7 a7 h2
              exact ⟨L', M', acc', avs', x1, x3, x4, x5, x6⟩
    · exact h2.elim
  · have e : i = it.items.length := by omega
    subst e
    rw [List.drop_length] at h2
    unfold compL2 at h2
    split at h2
    · rename_i hc
      refine .inl ⟨(r1 (L2.hide p) H2 M2 mv2 m2 hc _).2 rfl, h2 L2 H2 _ s2 m2.show (.lst q2 ⟨(m2.hid p List.mem_cons_self).1, ?_⟩ (a2.mv Mv.show))⟩
      rw [s2.same]
      exact op.2
    · exact h2.elim
/-- [el for tg in iter if .. for tg1 in iter1 if ..] -/
theorem ce_lc2 {elt tg iter tg1 iter1 : Expr} {ifs ifs1 : List Expr} {scope : Scope} {own : List (Str × Nat)} {mi mi1 : MI} {g g1 : GD} {t t1 : MT} {el : ME} {vs1 : List Nat} (c : Cq G k E N sc X) (hi : PI X tg iter (tID G.K E mi)) (ok : blkC N sc scope own = true) (hk : scope.kind = ScopeKind.function)
    (hg : ∀ Y, Cq G k E0 N (relS scope sc) Y → Y.fn = (fun x => scope.names.lookup x == some .cell) → PG Y tg (gtD G.K g)) (ht : ∀ Y, Cq G k E0 N (relS scope sc) Y → PTs Y ifs (tTD G.K E0 t))
    (hi1 : ∀ Y, Cq G k E0 N (relS scope sc) Y → PI Y tg1 iter1 (tID G.K E0 mi1)) (hg1 : ∀ Y, Cq G k E0 N (relS scope sc) Y → Y.fn = (fun x => scope.names.lookup x == some .cell) → PG Y tg1 (gtD G.K g1)) (ht1 : ∀ Y, Cq G k E0 N (relS scope sc) Y → PTs Y ifs1 (tTD G.K E0 t1))
    (he : ∀ Y, Cq G k E0 N (relS scope sc) Y → PE Y elt (tD G.K E0 el))
    (hsl : ∀ i ∈ g.sl, i ∈ own.map (·.2)) (hsl1 : ∀ i ∈ g1.sl, i ∈ vs1) (hv : ∀ i ∈ vs1, i ∈ own.map (·.2)) (hs : ∀ x, foldedSetIterable iter X.env x = pure x := by intro _; rfl) (hs1 : ∀ env x, foldedSetIterable iter1 env x = pure x := by intro _ _; rfl) :
    PE X (.ListComp elt [⟨tg, iter, ifs, 0⟩, ⟨tg1, iter1, ifs1, 0⟩] scope pos) (tD G.K E (mLc2 mi g t mi1 g1 t1 el (own.map (·.2)) vs1)) :=
  (pe_lc2 (own := own) c.calm (by rw [c.n]; exact c.nd) hi (by rw [c.n, c.scq]; exact blkOk_by ok) hv (fun s H C cl fp => hg _ (cq_blk c hk s H C cl fp) rfl) (fun s H C cl fp => ht _ (cq_blk c hk s H C cl fp)) (fun s H C cl fp => hi1 _ (cq_blk c hk s H C cl fp))
    (fun s H C cl fp => hg1 _ (cq_blk c hk s H C cl fp) rfl) (fun s H C cl fp => ht1 _ (cq_blk c hk s H C cl fp)) (fun s H C cl fp => he _ (cq_blk c hk s H C cl fp)) hs hs1).imp fun σ H Q h => lc2_sim hsl hsl1 h
end
/-! reckoning -/
theorem go_lc2 {Q : D → Mem → Prop} {env : Ly.Env} {M : Mem} {mi mi1 : MI} {g g1 : GD} {t t1 : MT} {el : ME} {vs vs1 : List Nat} : Go (mLc2 mi g t mi1 g1 t1 el vs vs1 env M) Q = Go (mi env M) fun it M1 => Go (compL2 g t mi1 g1 t1 el vs1 it.chk (wipeD env vs) it.items [] M1) fun ds M2 => Q (.lst ds) M2 := by
  unfold mLc2
  rw [go_bind]
  congr 1
  funext it M1
  rw [go_bind]
  rfl
theorem go_comp2 {env : Ly.Env} {g g1 : GD} {t t1 : MT} {el : ME} {mi1 : MI} {vs1 : List Nat} {chk : Mem → Prop} {Q : List D → Mem → Prop} (I : List D → List D → Mem → Prop)
    (step : ∀ d ds acc M, I (d :: ds) acc M → chk M ∧ ∃ e1, g.f d env = some e1 ∧ Go (t e1 M) fun c M1 => if c then Go (mi1 e1 M1) fun it1 M2 => Go (compL g1 t1 el it1.chk (wipeD e1 vs1) it1.items acc M2) fun acc' M3 => I ds acc' M3 else I ds acc M1)
    (done : ∀ acc M, I [] acc M → chk M ∧ Q acc M) : ∀ (ds acc : List D) (M : Mem), I ds acc M → Go (compL2 g t mi1 g1 t1 el vs1 chk env ds acc M) Q
  | [], acc, M, h => by
    obtain ⟨h1, h2⟩ := done acc M h
    unfold compL2
    rw [if_pos h1]
    exact h2
  | d :: ds, acc, M, h => by
    obtain ⟨h1, e1, h2, h3⟩ := step d ds acc M h
    unfold compL2
    rw [if_pos h1, h2]
    obtain ⟨c, M1, q, h3⟩ := h3.ok
    simp only [q, noX, Res.bind]
    cases c with
    | false => exact go_comp2 I step done ds acc M1 h3
    | true =>
      rw [if_pos rfl] at h3 ⊢
      obtain ⟨it1, M2, q2, h4⟩ := h3.ok
      obtain ⟨acc', M3, q3, h5⟩ := h4.ok
      simp only [q2, noX, Res.bind, q3]
      exact go_comp2 I step done ds acc' M3 h5
/-! ### dict(a list of pairs) -/
def pairsOf : List D → Option (List (Key × D))
  | [] => some []
  | .tup [k, v] :: ds => (keyOf k).bind fun key => (pairsOf ds).map fun r => (key, v) :: r
  | _ => none
def fDict (kp : Bool) : MF := fun ds M => match ds with
  | [d] => (match lstOf d M with
    | some xs => (match pairsOf xs with
      | some kvs => bdD kp (mergeD [] kvs) M
      | none => .bad)
    | none => .bad)
  | _ => .bad
section
variable {G : Gd} {k : Nat} {E : XK} {N : List Str} {sc : Scope} {X : Cx} {e : Expr} {es : List Expr} {mr : MA} {pos p : Pos} {kp : Bool}
theorem new_bdD {K : PySem.W.Frag} {L : Wd} {H : Hp} {M : Mem} {kvs : List (Key × D)} {kws : List (Key × V)} {Q : VK} (m : MemIs K L H M) (r : IsKV K L H kvs kws) (h : Fin (Is K) K E L H (bdD kp kvs M) Q) : ∀ p, H p = none → Q (.ref p) (upd H p (.dK kws)) := fun p hp => by
  cases kp with
  | false =>
    have st := Step.new (o := .dK kws) m hp
    exact h L _ _ st.1 (m.new hp) (.dic upd_same st.2 (r.step st.1))
  | true =>
    have st := Step.cell (o := .dK kws) m hp
    refine h (L.add p) _ _ st (m.push hp ⟨kws, upd_same, r.step st⟩) (.ref ?_)
    rw [← m.len]
    simp [Wd.add]
theorem pairsOf_ok {K : PySem.W.Frag} {L : Wd} {H : Hp} : ∀ {xs : List D} {vs : List V} {kvs : List (Key × D)}, IsL K L H xs vs → pairsOf xs = some kvs → ∃ (ps : List Addr) (kws : List (Key × V)), vs = ps.map V.ref ∧ Paired (fun p kv => SqT K H p [kV kv.1, kv.2]) ps kws ∧ IsKV K L H kvs kws
  | _, _, _, .nil, h => by
    cases h
    exact ⟨[], [], rfl, .nil, .nil⟩
  | d :: xs, _, _, .cons r t, h => by
    unfold pairsOf at h
    split at h
    · next e => cases e
    · next kd vd ds0 e =>
      cases e
      obtain ⟨key, hk, h⟩ := Option.bind_eq_some_iff.mp h
      obtain ⟨rest, hr, h⟩ := Option.map_eq_some_iff.mp h
      subst h
      obtain ⟨ps, kws, e1, e2, e3⟩ := pairsOf_ok t hr
      obtain ⟨a, ws, rfl, q, rl⟩ := r.tup_inv
      obtain ⟨v, w, rfl, rv, rw'⟩ := two_inv rl
      obtain rfl := key_ok rv hk
      exact ⟨a :: ps, (key, w) :: kws, by rw [e1]; rfl, .cons q e2, .cons rw' e3⟩
    · cases h
theorem rs_dict {K : PySem.W.Frag} : RSC K (fun xs H Q => ∃ (a : Addr) (ps : List Addr) (kvs : List (Key × V)), xs = [.ref a] ∧ SqL K H a (ps.map V.ref) ∧ Paired (fun p kv => SqT K H p [kV kv.1, kv.2]) ps kvs ∧ ∀ p, H p = none → Q (.ref p) (upd H p (.dK (mergeK [] kvs)))) (fDict kp) := by
  intro E L H M ds xs Q m rl h
  unfold fDict at h
  split at h
  · obtain ⟨v, rfl, r⟩ := one_inv rl
    split at h
    · next ys hy =>
      split at h
      · next kvs hk =>
        obtain ⟨a, vs, rfl, q, r1⟩ := lstOf_ok m r hy
        obtain ⟨ps, kws, rfl, e2, e3⟩ := pairsOf_ok r1 hk
        exact ⟨a, ps, kws, rfl, q, e2, new_bdD m (merge_ok e3 .nil) h⟩
      · exact h.elim
    · exact h.elim
  · exact h.elim
theorem ce_dict (c : Cq G k E N sc X) (hm : G.mg "dict" = none) (ha : PA X (e :: es) (tAD G.K E mr)) (hg : sc.names.lookup ("dict" : Str) = some NameKind.globalImplicit := by rfl)
    (he : starEach (e :: es) X.env = (false, eval e X.env) :: starEach es X.env := by rfl) (hpl : (backTo pos (starEach es X.env)).any (·.1) = false := by rfl) :
    PE X (.Call (.Name "dict" p) (e :: es) [] pos) (tD G.K E (mCB (fDict kp) mr)) := by
  obtain rfl := c.g
  exact ce_callT (call_dictP c.calm) rs_dict c hg hm (by decide +kernel) ha (by decide +kernel) (by decide +kernel) he hpl
end
end Ly

namespace L2
open PySem PySem.Spec PyProof.Rows
theorem PG.or {X : Cx} {e : Expr} {t t' : TG} (h : PG X e t) (h' : PG X e t') : PG X e (fun v σ H Q => t v σ H Q ∨ t' v σ H Q) := ⟨fun pins s σ H v u Q I r q => q.elim (fun q => h.run pins s σ H v u Q I r q) fun q => h'.run pins s σ H v u Q I r q⟩
end L2
namespace Ly
open PySem PySem.Spec PyProof.Rows L2
/-! ### a, b = a tuple or a list -/
def gUf (gs : List GD) (d : D) (env : Ly.Env) : Option Ly.Env := match d with
  | .tup ds => gTs gs ds env
  | .lst ds => gTs gs ds env
  | _ => none
def gU (gs : List GD) : GD := ⟨gUf gs, slots gs⟩
theorem gTs_len {env' : Ly.Env} : ∀ (gs : List GD) (ds : List D) (env : Ly.Env), gTs gs ds env = some env' → ds.length = gs.length
  | [], [], _, _ => rfl
  | [], _ :: _, _, q => by cases q
  | _ :: _, [], _, q => by cases q
  | g :: gs, d :: ds, env, q => by
    have q' : (g.f d env).bind (fun env' => gTs gs ds env') = some env' := q
    obtain ⟨env1, _, q2⟩ := Option.bind_eq_some_iff.mp q'
    rw [List.length_cons, List.length_cons, gTs_len gs ds env1 q2]
section
variable {G : Gd} {k : Nat} {E : XK} {N : List Str} {sc : Scope} {X : Cx} {es : List Expr} {gs : List GD} {pos : Pos}
theorem cg_unp {kk : Nat} {n : Nat} (c : Cq G k E N sc X) (h : PGs X es (gsD G.K gs)) (hn : (assignEach es X.env).length = n := by rfl) (hl : gs.length = n := by rfl) (hst : (assignEach es X.env).findIdx? (·.1) = none := by rfl) : PG X (.Tuple es kk pos) (gtD G.K (gU gs)) := by
  obtain rfl := c.g
  refine ((pg_tup c.calm h hn hst).or (pg_unl c.calm h hn hst)).imp fun v σ H Q ⟨env, L, M, d, env', he, hm, r, q, h⟩ => ?_
  replace q : gUf gs d env = some env' := q
  unfold gUf at q
  split at q
  · rename_i ds
    obtain ⟨a, vs, rfl, hq, rl⟩ := r.tup_inv
    exact .inl ⟨a, vs, rfl, hq, by rw [← rl.length, gTs_len gs ds env q, hl], env, L, M, ds, env', he, hm, rl, q, h⟩
  · rename_i ds
    obtain ⟨a, vs, rfl, hq, _, rl⟩ := r.lst_inv
    exact .inr ⟨a, vs, rfl, .inl (.inl hq), by rw [← rl.length, gTs_len gs ds env q, hl], env, L, M, ds, env', he, hm, rl, q, h⟩
  · cases q
end
/-! ### keywords in any order -/
def permL {α : Type} (p : List Nat) (l : List α) : List α := p.filterMap fun i => l[i]?
theorem vals_perm {zs : List V} {ws : List Value} (r : Vals zs ws) : ∀ p : List Nat, Vals (permL p zs) (permL p ws)
  | [] => .nil
  | i :: p => by
    have ih := vals_perm r p
    unfold permL at ih ⊢
    rw [List.filterMap_cons, List.filterMap_cons]
    cases hz : zs[i]? with
    | none =>
      have hw : ws[i]? = none := by
        rw [List.getElem?_eq_none_iff] at hz ⊢
        rw [← r.length]
        exact hz
      rw [hw]
      exact ih
    | some z =>
      obtain ⟨u, hu, ru⟩ := r.get hz
      rw [hu]
      exact .cons ru ih
theorem isl_perm {K : PySem.W.Frag} {L : Wd} {H : Hp} {ds : List D} {zs : List V} (r : IsL K L H ds zs) : ∀ p : List Nat, IsL K L H (permL p ds) (permL p zs)
  | [] => .nil
  | i :: p => by
    have ih := isl_perm r p
    unfold permL at ih ⊢
    rw [List.filterMap_cons, List.filterMap_cons]
    cases hz : ds[i]? with
    | none =>
      have hw : zs[i]? = none := by
        rw [List.getElem?_eq_none_iff] at hz ⊢
        rw [← r.length]
        exact hz
      rw [hw]
      exact ih
    | some z =>
      obtain ⟨u, hu, ru⟩ := r.get hz
      rw [hu]
      exact .cons ru ih
theorem len_perm {α : Type} {l : List α} : ∀ p : List Nat, (p.all fun i => decide (i < l.length)) = true → (permL p l).length = p.length
  | [], _ => rfl
  | i :: p, h => by
    have h1 : i < l.length := of_decide_eq_true (and_l h)
    unfold permL
    rw [List.filterMap_cons, List.getElem?_eq_getElem h1]
    show (permL p l).length + 1 = p.length + 1
    rw [len_perm p (and_r h)]
section
variable {G : Gd} {k : Nat} {N ps ks : List Str} {sc : Scope} {x qual : Str} {params : Arguments} {body : List Stmt} {kws : List (Str × V)} {fd : FuncData} {m : MS}
theorem cal_P (p : List Nat) (F : FunD G.K x qual params body sc [] kws (He.ga G.K x) fd) (S : FnScope N ps sc) (gl : G.mg x = some (.ref (He.ga G.K x))) (hp : (p.all fun i => decide (i < ks.length)) = true) (hl : p.length = ps.length)
    (h : ∀ (kV doc pm : Value) (an : Option Addr) (cdv ct : Value) (us : List Value), us.length = ks.length → bindArgs (PySem.W.fnOf x qual params body sc .none kV doc pm an cdv ct) ⟨[], ks.zip us⟩ = pure (ps.zip (permL p us)))
    (hb : ∀ (X : Cx) (E : XK), Cq G k E N sc X → X.fn = (fun _ => true) → PSs X body (sD G.K E m)) : CalW G (k + 1) x ps ks (permL p) (permL p) (permL p) (callD N.length m) := by
  refine ⟨⟨fd, fn_okD F S hb, ?_⟩, fun r => vals_perm r p, fun e r => ⟨isl_perm r p, ?_⟩, F.kp, gl⟩
  · obtain ⟨oc, od, dV, kV, doc, pm, an, cdv, ct, osl, rfl, lk, hcd, hD, hK⟩ := F.ex
    rcases hD with ⟨_, rfl⟩ | ⟨e, _⟩
    · exact fun s ws hw => .of_eq (h kV doc pm an cdv ct ws hw)
    · exact absurd rfl e
  · rw [len_perm p (by rw [← r.length, e]; exact hp), hl]
end
theorem go_callW {Q : D → Mem → Prop} {n : Nat} {gD : List D → List D} {f : MF} {r : MA} {env : Ly.Env} {M : Mem} : Go (mCallW n gD f r env M) Q = Go (r env M) fun ds M1 => ds.length = n ∧ Go (f (gD ds) M1) Q := by
  unfold mCallW
  rw [go_bind]
  congr 1
  funext d M1
  rw [go_ite]
  simp [Go]
theorem go_dictL {Q : D → Mem → Prop} {xs : List D} {kvs : List (Key × D)} {M : Mem} {kp : Bool} (h : pairsOf xs = some kvs) : Go (fDict kp [.lst xs] M) Q = Go (bdD kp (mergeD [] kvs) M) Q := by
  have e : fDict kp [.lst xs] M = bdD kp (mergeD [] kvs) M := by
    unfold fDict
    simp only [lstOf, h]
  rw [e]
theorem go_par3 {i j l : Nat} {env : Ly.Env} {M : Mem} {mr : MA} {S : Ly.Env → Mem → Prop} {R : D → Mem → Prop} : GoS (mPar3 i j l mr env M) S R = Go (mr env M) fun ds M1 => ∃ a b c, ds = [a, b, c] ∧ S (((env.set i (some a)).set j (some b)).set l (some c)) M1 := by
  unfold mPar3
  rw [go_bindS]
  congr 1
  funext ds M1
  match ds with
  | [] => simp [GoS]
  | [a] => simp [GoS]
  | [a, b] => simp [GoS]
  | [a, b, c] => exact propext ⟨fun h => ⟨a, b, c, rfl, h⟩, fun ⟨_, _, _, e, h⟩ => by cases e; exact h⟩
  | a :: b :: c :: d :: r => simp [GoS]
end Ly

namespace Ly
open PySem PySem.Spec PyProof.Rows L2
/-! ### a, b = x, y where a comprehension captures a name -/
def locT (sc : Scope) (t : Expr) : Bool := match t with
  | .Name id _ => sc.names.lookup id == some .local
  | _ => false
theorem fm_lt {α β : Type} (f : α → Option β) : ∀ (l : List α), (∃ a ∈ l, f a = none) → (l.filterMap f).length < l.length
  | [], h => by obtain ⟨a, h, _⟩ := h; cases h
  | a :: l, h => by
    rw [List.filterMap_cons, List.length_cons]
    cases e : f a with
    | none =>
      have : (l.filterMap f).length ≤ l.length := List.length_filterMap_le f l
      simp only
      omega
    | some b =>
      simp only [List.length_cons]
      have : (l.filterMap f).length < l.length := fm_lt f l (by
        obtain ⟨x, hx, e'⟩ := h
        rcases List.mem_cons.mp hx with rfl | hx
        · rw [e] at e'
          cases e'
        · exact ⟨x, hx, e'⟩)
      omega
theorem sw_none {ts vs : List Expr} {kt k2 : Nat} {pt pt2 : Pos} {env : PySem.Env} (h : ts.all (locT env.scope) = false) : swappedStores [.Tuple ts kt pt] (.Tuple vs k2 pt2) env = pure none := by
  have key : ∀ line, (ts.filterMap fun
    | .Name id pos => if env.kindOf id == some .local && pos.line == line then some id else none
    | _ => none).length ≠ ts.length := fun line => by
    refine Nat.ne_of_lt (fm_lt _ _ ?_)
    obtain ⟨t, ht, e⟩ : ∃ t ∈ ts, locT env.scope t = false := by
      rw [List.all_eq_false] at h
      obtain ⟨t, h1, h2⟩ := h
      exact ⟨t, h1, by simpa using h2⟩
    refine ⟨t, ht, ?_⟩
    unfold locT at e
    split at e
    · next id pos =>
      show (if env.kindOf id == some .local && pos.line == line then some id else none) = none
      rw [show env.kindOf id = env.scope.names.lookup id from rfl, e, Bool.false_and]
      rfl
    · next hne =>
      rfl
  unfold swappedStores
  simp only []
  split
  · rfl
  · split
    · rfl
    · rw [if_pos]
      rw [Bool.or_eq_true]
      left
      exact bne_iff_ne.mpr (key _)
section
variable {G : Gd} {k : Nat} {E : XK} {N : List Str} {sc : Scope} {X : Cx} {e tg : Expr} {pos : Pos} {ma : ME} {g : GD} {ts vs : List Expr} {kt k2 : Nat} {pt pt2 : Pos}
theorem cs_tup (c : Cq G k E N sc X) (hl : ts.all (locT sc) = false) (h : PE X (.Tuple vs k2 pt2) (tD G.K E ma)) (hg : PG X (.Tuple ts kt pt) (gtD G.K g)) (hs : swapsWithSole [.Tuple ts kt pt] (.Tuple vs k2 pt2) pos.line X.env = pure false := by rfl) (h1 : (assignEach [.Tuple ts kt pt] X.env).map (·.2) = [assign (.Tuple ts kt pt) X.env] := by rfl) :
    PS X (.Assign [.Tuple ts kt pt] (.Tuple vs k2 pt2) pos) (sD G.K E (mAsg ma g)) := cs_asg h hg hs (sw_none (by rw [c.scq]; exact hl)) h1
end
/-! ### any written data of the module -/
theorem kis_dat {K : PySem.W.Frag} {x : Str} {d : D} (h : datB K 4 d (.ref (He.ga K x)) = true) : KIs K d (He.ga K x) := fun L H => by
  obtain ⟨v, r, i⟩ := datB_ok 4 d _ h
  have e : v = .ref (He.ga K x) := by
    cases v <;> first | (cases r; rfl) | (exact nomatch r)
  rw [← e]
  exact i L H
end Ly

namespace Ly
open PySem PySem.Spec PyProof.Rows L2
/-! ### repr of plain data -/
/-- depth at most e, weight at most n -/
def Rp (e n : Nat) (d : D) : Prop := ∃ p, pdOf d = some p ∧ p.showable = true ∧ p.depth ≤ e ∧ p.leavesShort 60 = true ∧ p.weight ≤ n
def RpL (e n : Nat) (ds : List D) : Prop := ∃ ps, pdAll ds = some ps ∧ PyData.showableAll ps = true ∧ PyData.depthAll ps ≤ e ∧ PyData.leavesShortAll 60 ps = true ∧ PyData.weightAll ps ≤ n
def shw (d : D) : Str := match pdOf d with
  | some p => p.shown
  | none => ""
theorem Rp.mono {e n e' n' : Nat} {d : D} (h : Rp e n d) (he : e ≤ e') (hn : n ≤ n') : Rp e' n' d := by
  obtain ⟨p, a, b, c, f, g⟩ := h
  exact ⟨p, a, b, Nat.le_trans c he, f, Nat.le_trans g hn⟩
theorem RpL.mono {e n e' n' : Nat} {d : List D} (h : RpL e n d) (he : e ≤ e') (hn : n ≤ n') : RpL e' n' d := by
  obtain ⟨p, a, b, c, f, g⟩ := h
  exact ⟨p, a, b, Nat.le_trans c he, f, Nat.le_trans g hn⟩
theorem go_shw {M : Mem} {d : D} {e n : Nat} {Q : D → Mem → Prop} (h : Rp e n d) (he : e ≤ 60) (hn : n ≤ 16000) : Go (fRepr [d] M) Q = Q (.str (shw d)) M := by
  obtain ⟨p, h0, h1, h2, h3, h4⟩ := h
  have len := PyData.shown_le 60 (by decide) p h3
  have pm : pdM M d = some p := by
    cases d with
    | ref n => cases h0
    | _ => exact h0
  have e1 : fRepr [d] M = .ok (.str p.shown) M := by
    have c : (p.showable && decide (p.depth ≤ 60) && decide (p.shown.length ≤ 1000000)) = true := by
      rw [h1, decide_eq_true (Nat.le_trans h2 he), decide_eq_true (by omega)]
      rfl
    unfold fRepr
    simp only [pm, c, if_true]
  rw [e1]
  unfold shw
  rw [h0]
  rfl
theorem rp_non : Rp 0 0 .non := ⟨_, rfl, rfl, Nat.le_refl _, rfl, Nat.le_refl _⟩
theorem rp_bl {b : Bool} : Rp 0 0 (.bl b) := ⟨_, rfl, rfl, Nat.le_refl _, rfl, Nat.le_refl _⟩
theorem shown_int60 {i : Int} (h : i.natAbs < 10 ^ 59) : (PyData.shown (.int i)).length ≤ 60 := by
  have e := int_text_length_le10 (k := 59) (by decide) h
  show (Str.ofString (toString i)).length ≤ 60
  rw [PySem.ofString_length]
  exact e
theorem rp_int {i : Int} (h : i.natAbs < 10 ^ 59) : Rp 0 200 (.int i) := by
  have lg : i.natAbs.log2 ≤ 198 := by
    by_cases z : i.natAbs = 0
    · rw [z]
      decide
    · exact Nat.le_of_lt ((Nat.log2_lt z).mpr (Nat.lt_of_lt_of_le h (by decide)))
  refine ⟨_, rfl, decide_eq_true (by omega), Nat.le_refl _, decide_eq_true (shown_int60 h), ?_⟩
  show (if (i == 0) = true then 0 else i.natAbs.log2 + 1) ≤ 200
  split <;> omega
theorem rp_intS {i : Int} (h0 : -1000 ≤ i) (h1 : i ≤ 1000) : Rp 0 11 (.int i) := by
  have lg : i.natAbs.log2 ≤ 10 := by
    by_cases z : i.natAbs = 0
    · rw [z]
      decide
    · exact Nat.le_of_lt ((Nat.log2_lt z).mpr (by omega))
  refine ⟨_, rfl, decide_eq_true (by omega), Nat.le_refl _, decide_eq_true (shown_int60 (Nat.lt_of_lt_of_le (show i.natAbs < 2000 by omega) (by decide))), ?_⟩
  show (if (i == 0) = true then 0 else i.natAbs.log2 + 1) ≤ 11
  split <;> omega
theorem rp_str {n : Nat} {x : Str} (h : Nm n x) : Rp 0 n (.str x) := by
  refine ⟨_, rfl, rfl, Nat.le_refl _, ?_, h.1⟩
  show (x.cps.toList.all fun c => decide (c < 16 ^ 8)) = true
  rw [List.all_eq_true]
  intro c hc
  have := h.2 c hc
  exact decide_eq_true (by omega)
theorem rpl_nil : RpL 0 0 [] := ⟨[], rfl, rfl, Nat.le_refl _, rfl, Nat.le_refl _⟩
theorem rpl_cons {e n m : Nat} {d : D} {ds : List D} (h : Rp e n d) (hs : RpL e m ds) : RpL e (n + 1 + m) (d :: ds) := by
  obtain ⟨p, h0, h1, h2, h3, h4⟩ := h
  obtain ⟨ps, g0, g1, g2, g3, g4⟩ := hs
  refine ⟨p :: ps, ?_, ?_, Nat.max_le.mpr ⟨h2, g2⟩, ?_, ?_⟩
  · unfold pdAll
    rw [h0, g0]
    rfl
  · show (p.showable && PyData.showableAll ps) = true
    rw [h1, g1]
    rfl
  · show (p.leavesShort 60 && PyData.leavesShortAll 60 ps) = true
    rw [h3, g3]
    rfl
  · show p.weight + 1 + PyData.weightAll ps ≤ _
    omega
theorem rpl_all {e n : Nat} : ∀ {ds : List D}, (∀ d ∈ ds, Rp e n d) → RpL e ((n + 1) * ds.length) ds
  | [], _ => rpl_nil.mono (Nat.zero_le _) (Nat.zero_le _)
  | d :: ds, h => by
    refine (rpl_cons (h d List.mem_cons_self) (rpl_all fun x hx => h x (List.mem_cons_of_mem _ hx))).mono (Nat.le_refl _) ?_
    rw [List.length_cons, Nat.mul_succ]
    omega
theorem rp_tup {e n : Nat} {ds : List D} (h : RpL e n ds) : Rp (e + 1) n (.tup ds) := by
  obtain ⟨ps, g0, g1, g2, g3, g4⟩ := h
  refine ⟨.tuple ps, ?_, g1, Nat.succ_le_succ g2, g3, g4⟩
  show (pdAll ds).map PyData.tuple = _
  rw [g0]
  rfl
theorem rp_lst {e n : Nat} {ds : List D} (h : RpL e n ds) : Rp (e + 1) n (.lst ds) := by
  obtain ⟨ps, g0, g1, g2, g3, g4⟩ := h
  refine ⟨.list ps, ?_, g1, Nat.succ_le_succ g2, g3, g4⟩
  show (pdAll ds).map PyData.list = _
  rw [g0]
  rfl
/-! ### dicts with texts for keys -/
section
variable {α : Type} (f : α → D)
def kv (T : List (Str × α)) : List (Key × D) := T.map fun p => (.inr p.1, f p.2)
def look (T : List (Str × α)) (x : Str) : Option α := (T.find? fun p => decide (p.1 = x)).map (·.2)
variable {f}
theorem val_kv {T : List (Str × α)} {x : Str} : valD (kv f T) (.inr x) = (look T x).map f := by
  unfold valD look kv
  induction T with
  | nil => rfl
  | cons p T ih =>
    rw [List.map_cons]
    by_cases h : p.1 = x
    · rw [List.find?_cons_of_pos (by simpa using h), List.find?_cons_of_pos (by simpa using h)]
      rfl
    · rw [List.find?_cons_of_neg (by simpa using h), List.find?_cons_of_neg (by simpa using h)]
      exact ih
theorem look_snoc {T : List (Str × α)} {x y : Str} {v : α} (h : x ∉ T.map (·.1)) : look (T ++ [(x, v)]) y = if y = x then some v else look T y := by
  unfold look
  rw [List.find?_append]
  by_cases hy : y = x
  · subst hy
    rw [if_pos rfl]
    have : T.find? (fun p => decide (p.1 = y)) = none := by
      rw [List.find?_eq_none]
      intro p hp z
      exact h (List.mem_map.mpr ⟨p, hp, by simpa using z⟩)
    rw [this]
    simp
  · rw [if_neg hy]
    cases T.find? (fun p => decide (p.1 = y)) with
    | some p => rfl
    | none =>
      have : ([(x, v)] : List (Str × α)).find? (fun p => decide (p.1 = y)) = none := by
        rw [List.find?_cons_of_neg (by simpa using fun z => hy z.symm)]
        rfl
      rw [this]
      rfl
theorem look_none {T : List (Str × α)} {x : Str} (h : x ∉ T.map (·.1)) : look T x = none := by
  unfold look
  rw [List.find?_eq_none.mpr]
  · rfl
  · intro p hp z
    exact h (List.mem_map.mpr ⟨p, hp, by simpa using z⟩)
theorem look_some {T : List (Str × α)} {x : Str} (h : x ∈ T.map (·.1)) : ∃ v, look T x = some v ∧ (x, v) ∈ T := by
  unfold look
  obtain ⟨p, hp, e⟩ := List.mem_map.mp h
  cases q : T.find? (fun p => decide (p.1 = x)) with
  | none =>
    rw [List.find?_eq_none] at q
    exact absurd (decide_eq_true e) (q p hp)
  | some p' =>
    have h1 : p'.1 = x := by simpa using List.find?_some q
    refine ⟨p'.2, rfl, ?_⟩
    rw [← h1]
    exact List.mem_of_find?_eq_some q
theorem look_mem {T : List (Str × α)} {x : Str} {v : α} (h : look T x = some v) : (x, v) ∈ T := by
  unfold look at h
  obtain ⟨p, hp, rfl⟩ := Option.map_eq_some_iff.mp h
  have h1 : p.1 = x := by simpa using List.find?_some hp
  rw [← h1]
  exact List.mem_of_find?_eq_some hp
theorem put_new {T : List (Str × α)} {x : Str} {v : α} (h : x ∉ T.map (·.1)) : putD (kv f T) (.inr x) (f v) = kv f (T ++ [(x, v)]) := by
  unfold putD
  rw [if_neg]
  · unfold kv
    rw [List.map_append]
    rfl
  · intro z
    rw [List.any_eq_true] at z
    obtain ⟨q, hq, e⟩ := z
    unfold kv at hq
    obtain ⟨p, hp, rfl⟩ := List.mem_map.mp hq
    have e : (Sum.inr p.1 : Key) = .inr x := of_decide_eq_true e
    exact h (List.mem_map.mpr ⟨p, hp, Sum.inr.inj e⟩)
theorem kv_len {T : List (Str × α)} : (kv f T).length = T.length := by
  unfold kv
  rw [List.length_map]
theorem kv_low {k : Nat} {T : List (Str × α)} (h : ∀ p ∈ T, (f p.2).low k = true) : lowK k (kv f T) = true := by
  induction T with
  | nil => rfl
  | cons p T ih =>
    show ((f p.2).low k && lowK k (kv f T)) = true
    rw [h p List.mem_cons_self, ih fun q hq => h q (List.mem_cons_of_mem _ hq)]
    rfl
theorem put_upd {T : List (Str × α)} {x : Str} {v : α} (h : x ∈ T.map (·.1)) : putD (kv f T) (.inr x) (f v) = kv f (T.map fun p => if p.1 = x then (p.1, v) else p) := by
  unfold putD
  rw [if_pos]
  · unfold kv
    rw [List.map_map, List.map_map]
    refine List.map_congr_left fun p _ => ?_
    simp only [Function.comp]
    by_cases e : p.1 = x
    · rw [if_pos e, if_pos (by rw [e])]
    · rw [if_neg e, if_neg (fun z => e (Sum.inr.inj z))]
  · rw [List.any_eq_true]
    obtain ⟨p, hp, e⟩ := List.mem_map.mp h
    exact ⟨(.inr p.1, f p.2), List.mem_map.mpr ⟨p, hp, rfl⟩, decide_eq_true (by rw [e])⟩
theorem merge_nd {T : List (Str × α)} (h : (T.map (·.1)).Nodup) : mergeD [] (kv f T) = kv f T := by
  have key : ∀ (U S : List (Str × α)), ((S ++ U).map (·.1)).Nodup → (kv f U).foldl (fun acc q => putD acc q.1 q.2) (kv f S) = kv f (S ++ U) := by
    intro U
    induction U with
    | nil => intro S _; rw [List.append_nil]; rfl
    | cons p U ih =>
      intro S nd
      show (kv f U).foldl (fun acc q => putD acc q.1 q.2) (putD (kv f S) (.inr p.1) (f p.2)) = _
      rw [put_new (f := f) (v := p.2)]
      · rw [ih (S ++ [(p.1, p.2)]) (by simpa using nd)]
        simp
      · intro z
        rw [List.map_append, List.nodup_append] at nd
        exact nd.2.2 _ z _ (by simp) rfl
  exact key T [] h
end
section
variable {M : Mem} {Q : D → Mem → Prop} {n : Nat} {kvs : List (Key × D)} {x : Str} {v : D}
theorem go_ixDC (h : M[n]? = some (.dic kvs)) : Go (opIx (.ref n) (.str x) M) Q = ∃ v, valD kvs (.inr x) = some v ∧ Q v M := by
  have e : opIx (.ref n) (.str x) M = (match valD kvs (.inr x) with
    | some v => .ok v M
    | none => .bad) := by
    simp only [opIx, dicOf, h]
    rfl
  rw [e]
  cases valD kvs (.inr x) <;> simp [Go]
theorem key_bind {α : Type} {f : Key → Option α} : (keyOf (.str x)).bind f = f (.inr x) := id rfl
theorem go_ixDF : Go (opIx (.dic kvs) (.str x) M) Q = ∃ v, valD kvs (.inr x) = some v ∧ Q v M := go_ixD
theorem set_dic (h : M[n]? = some (.dic kvs)) (hl : kvs.length + 1 ≤ 100000) : setM M (.ref n) (.str x) v = some (M.set n (.dic (putD kvs (.inr x) v))) := by
  have : szOk (kvs.length + 1) = true := decide_eq_true hl
  simp only [setM, h, keyOf, this, if_true]
theorem in_dicC (h : M[n]? = some (.dic kvs)) : inM M (.str x) (.ref n) = some (valD kvs (.inr x)).isSome := by
  simp only [inM, dicOf, h, keyOf]
  rfl
theorem in_dicF : inM M (.str x) (.dic kvs) = some (valD kvs (.inr x)).isSome := rfl
end
/-! ### cells laid down -/
theorem frK_low {k n : Nat} {M : Mem} : ∀ l : List (Key × D), lowK k l = true → frK (frzD k M (n + 1)) l = some l
  | [], _ => rfl
  | d :: l, hl => by
    unfold lowK at hl
    show ((frzD k M (n + 1) d.2).bind fun a => (frK (frzD k M (n + 1)) l).map fun b => (d.1, a) :: b) = _
    rw [frz_low (and_l hl), frK_low l (and_r hl)]
    rfl
theorem frL_low {k n : Nat} {M : Mem} : ∀ l : List D, lowL k l = true → frL (frzD k M (n + 1)) l = some l
  | [], _ => rfl
  | d :: l, hl => by
    unfold lowL at hl
    show ((frzD k M (n + 1) d).bind fun a => (frL (frzD k M (n + 1)) l).map fun b => a :: b) = _
    rw [frz_low (and_l hl), frL_low l (and_r hl)]
    rfl
theorem frz_ref {k n i : Nat} {M : Mem} {c : Cell} (h : M[i]? = some c) (hi : k ≤ i) : frzD k M (n + 1) (.ref i) = frzC (frzD k M n) c := by
  have nl : ¬ (D.ref i).low k = true := by
    unfold D.low
    simpa using hi
  unfold frzD
  rw [if_neg nl]
  show (M[i]?).bind (frzC (frzD k M n)) = _
  rw [h]
  rfl
theorem frz_dicI {k n i : Nat} {M : Mem} {kvs : List (Key × D)} (h : M[i]? = some (.dic kvs)) (hi : k ≤ i) (hl : lowK k kvs = true) : frzD k M (n + 2) (.ref i) = some (.dic kvs) := by
  rw [frz_ref h hi]
  show (frK (frzD k M (n + 1)) kvs).map D.dic = _
  rw [frK_low kvs hl]
  rfl
theorem frz_lstI {k n i : Nat} {M : Mem} {ds : List D} (h : M[i]? = some (.lst ds)) (hi : k ≤ i) (hl : lowL k ds = true) : frzD k M (n + 2) (.ref i) = some (.lst ds) := by
  rw [frz_ref h hi]
  show (frL (frzD k M (n + 1)) ds).map D.lst = _
  rw [frL_low ds hl]
  rfl
theorem frz_tup {k n : Nat} {M : Mem} {ds es : List D} (hn : lowL k ds = false) (h : frL (frzD k M n) ds = some es) : frzD k M (n + 1) (.tup ds) = some (.tup es) := by
  have nl : ¬ (D.tup ds).low k = true := by
    unfold D.low
    rw [hn]
    decide
  unfold frzD
  rw [if_neg nl]
  show (frL (frzD k M n) ds).map D.tup = _
  rw [h]
  rfl
theorem cut_t2 (ds : List D) : Ly.cutD ds none (some 2) = ds.take 2 := cut_to ds 2
theorem cut_f1 (ds : List D) : Ly.cutD ds (some 1) none = ds.drop 1 := cut_from ds 1
theorem cut_f2 (ds : List D) : Ly.cutD ds (some 2) none = ds.drop 2 := cut_from ds 2
end Ly

/-! Ly37: len of a set comprehension of keys. The core follows the library's proof for sets of truth values (HandS SetBool), turned to sets of keys. -/
namespace Ly
open PySem PySem.Spec PyProof.Rows L2 PpSet
section
variable {X : Cx}
theorem setK_fresh {h : Heap} (P : Program) (w : World) : (h.push { cls := .type "set", dict := none, data := .set #[] 0 (.fresh 0 0 (!w.params.followText "set-order")) }).SetOf (mixKind P w) h.objs.size (fun _ => false) 0 :=
  ⟨_, #[], 0, _, Heap.get?_push_size _ rfl, ⟨rfl, rfl, rfl⟩, rfl, (fun e he => by simp at he), (fun k => by simp), (by decide), (by rfl), rfl⟩
theorem addK_ok {pins : List (Addr × Obj)} {σ : L2.St} {H : Hp} {s : Shared} {E : Value → Shared → Prop} {D : Addr} {S : Key → Bool} {n : Nat} {y : Key} {z : Value} {Q : Value → Shared → Prop} (I : Inv X pins σ H s) (rz : RelV (kV y) z) (hD : H D = some (SetK X.prog X.w D S n)) (room : n + 1 < scanBound)
    (h : ∀ s', Inv X pins σ (upd H D (SetK X.prog X.w D (fun j => S j || decide (j = y)) (if S y = true then n else n + 1))) s' → Q .none s') : wpAny (model X.prog X.w) X.A (call (.builtin "set.add") [.ref D, z]) Q E s := by
  refine call_set_add (kV_is rz) (key_scan rz) (setK_get I hD) room fun h' sb new => ?_
  have he : ∃ u, h'.get? D = some u := by
    have ⟨o, _, _, _, ho, _⟩ := new
    exact ⟨o, ho⟩
  exact h _ (I.write (e := D) (t' := s.toks + 1) (by rw [hD]; trivial) (.inl rfl) (fun b u hb hu => (sb.2 b hb).trans hu) he (setK_new new))
theorem call_lenK : CallR X (.builtin "len") (fun xs H Q => ∃ (a : Addr) (S : Key → Bool) (n : Nat), xs = [V.ref a] ∧ H a = some (SetK X.prog X.w a S n) ∧ n < scanBound ∧ Q (.int (n : Nat)) H) := by
  intro pins s σ H xs us Q I r h
  obtain ⟨a, S, n, rfl, ha, hn, q⟩ := h
  obtain ⟨u, rfl, rx⟩ := vals1 r
  cases rx
  obtain ⟨o, es, ep, t, ho, hex, hd, _, _, _, hf, en⟩ := setK_get I ha
  have hb : (es.size : Int) < 2 ^ 63 := by
    rw [en]
    unfold scanBound at hn
    omega
  exact call_len_set ho hex hd hf hb ⟨.int (n : Nat), H, (I.tok _).tok _, ⟨_, by rw [en]⟩, q⟩
def tScK (P : Program) (w : World) (wi : TI) (g : TG) (tt : TT) (te : TE) (vs : List Nat) : TE := fun σ H Q => wi σ H fun J H1 => ∀ D, H1 D = none → ∃ W : Nat → Nat → Hp → Prop, (∃ m, W 0 m (upd H1 D (SetK P w D (fun _ => false) 0))) ∧ ∀ i m H, W i m H →
  (J.stop i H ∧ Q (.ref D) H) ∨ (J.go i H ∧ ∃ Nx : Hp → Prop, (∀ H', Nx H' → ∃ m', m' < m ∧ W (i + 1) m' H') ∧ ∀ x H', J.yld i H x H' → g x (wipe σ vs) H' fun σ2 H2 => wipe σ2 vs = wipe σ vs ∧ tt σ2 H2 fun b H3 =>
    if b = true then te σ2 H3 fun y H4 => ∃ (c : Key) (S : Key → Bool) (n : Nat), y = kV c ∧ H4 D = some (SetK P w D S n) ∧ n + 1 < scanBound ∧ Nx (upd H4 D (SetK P w D (fun j => S j || decide (j = c)) (if S c = true then n else n + 1))) else Nx H3)
theorem ks_core {pins : List (Addr × Obj)} {s : Shared} {σ : L2.St} {H : Hp} {Q : VK} {elt tg iter : Expr} {ifs : List Expr} {scope : Scope} {own : List (PySem.Str × Nat)} {pos pos' : Pos} {wi : TI} {g : TG} {tt : TT} {te : TE} {use : Option (Value → Sem Unit)} {Qf : Value → Shared → Prop}
    (hc : X.calm = true) (hN : X.N.Nodup) (I : Inv X pins σ H s) (hi : PI X tg iter wi) (ok : BlkOk X.N X.env.scope scope own)
    (hg : ∀ (s : Shared) (H : Hp) (C : Addr) (cl : List (PySem.Str × Addr)) (fp : List Addr), PG (X.blk s H scope (compEnvC scope cl C X.env) fp) tg g) (ht : ∀ (s : Shared) (H : Hp) (C : Addr) (cl : List (PySem.Str × Addr)) (fp : List Addr), PTs (X.blk s H scope (compEnvC scope cl C X.env) fp) ifs tt)
    (he : ∀ (s : Shared) (H : Hp) (C : Addr) (cl : List (PySem.Str × Addr)) (fp : List Addr), PE (X.blk s H scope (compEnvC scope cl C X.env) fp) elt te) (hs : ∀ x, foldedSetIterable iter X.env x = pure x)
    (h : tScK X.prog X.w wi g tt te (own.map (·.2)) σ H Q)
    (hRR : ∀ D C s' m H', Inv X pins σ H' s' → Q (.ref D) H' → s'.heap.Ns C m → FpOk X pins H' C → compPost (model X.prog X.w) X.A X.xe use Qf (.ref D) C (.ok .next) s') :
    wpAny (model X.prog X.w) X.A (comprehension (.SetComp elt [⟨tg, iter, ifs, 0⟩] scope pos) scope X.env pos' (newSet (.type "set")) false (eval iter X.env) use) Qf X.xe s := by
  have hfree : ∀ y ∈ scope.names, y.2 = .free → ∃ c, X.env.cells.lookup y.1 = some c := fun y hy e => by
    rcases ok.free y hy e with k | k
    · exact I.ok.has _ (.inl k)
    · exact I.ok.has _ (.inr k)
  refine wpAny_comprehension_free (use := use) rfl hs (closure_ok hfree) ok.kind (fun y hy e => by rw [ok.uniq y hy, e])
    (thn (hi.run pins s σ H _ I h) fun xv s1 hx => thn hx fun itv s2 h2 => ?_)
  obtain ⟨it, fp, tn, J, H2, e, I2, T, st2, f2, q⟩ := h2
  subst e
  refine newSet_ok (newEnv_comp ?_)
  generalize hD : s2.heap.objs.size = D
  have hDn : H2 D = none := I2.hok.fresh (Nat.le_of_eq hD)
  obtain ⟨W, ⟨m0, w0⟩, turn⟩ := q D hDn
  -- the new list
  generalize hs3 : ({ s2 with heap := s2.heap.push { cls := .type "set", dict := none, data := .set #[] 0 (.fresh 0 0 (!X.w.params.followText "set-order")) } } : Shared) = s3
  have I3 : Inv X pins σ (upd H2 D (SetK X.prog X.w D (fun _ => false) 0)) s3 := by
    rw [← hs3]
    refine I2.laid (t' := s2.toks) (fun b o e => Heap.get?_push_of_some _ e) (Nat.le_of_eq hD) ?_
    rw [← hD]
    exact setK_new (setK_fresh X.prog X.w)
  have h3 : s3.heap = s2.heap.push { cls := .type "set", dict := none, data := .set #[] 0 (.fresh 0 0 (!X.w.params.followText "set-order")) } := by rw [← hs3]
  have sz : ∀ b ∈ fp, b < s2.heap.objs.size := fun b hb => by
    obtain ⟨o, e, _⟩ := T.obj _ _ st2 b hb
    exact Heap.lt_size e
  have f3 : ∀ b ∈ fp, FpOk X pins (upd H2 D (SetK X.prog X.w D (fun _ => false) 0)) b ∧ b < s3.heap.objs.size := fun b hb => by
    have hlt := sz b hb
    refine ⟨⟨?_, (f2 b hb).2⟩, by rw [h3, Heap.size_push]; exact Nat.lt_succ_of_lt hlt⟩
    rw [upd_ne (by rw [← hD]; exact Nat.ne_of_lt hlt)]
    exact (f2 b hb).1
  have st3 : tn 0 s3.heap := T.keep _ _ _ st2 fun b _ o e => by rw [h3]; exact Heap.get?_push_of_some _ e
  have I4 := block_start I3 ok hN f3
  have pg := hg s3 (upd H2 D (SetK X.prog X.w D (fun _ => false) 0)) s3.heap.objs.size (cellsFrom (s3.heap.objs.size + 1) scope.names (cloFrom X.env.cells scope.names [])) fp
  have pt := ht s3 (upd H2 D (SetK X.prog X.w D (fun _ => false) 0)) s3.heap.objs.size (cellsFrom (s3.heap.objs.size + 1) scope.names (cloFrom X.env.cells scope.names [])) fp
  have pe := he s3 (upd H2 D (SetK X.prog X.w D (fun _ => false) 0)) s3.heap.objs.size (cellsFrom (s3.heap.objs.size + 1) scope.names (cloFrom X.env.cells scope.names [])) fp
  show codeAny _ _ (.compStart (.SetComp elt [⟨tg, iter, ifs, 0⟩] scope pos) 0 (.ref it) (.ref D) (compEnvC scope (cellsFrom (s3.heap.objs.size + 1) scope.names (cloFrom X.env.cells scope.names [])) s3.heap.objs.size X.env)) (compPost (model X.prog X.w) X.A X.xe use Qf (.ref D) s3.heap.objs.size) { s3 with heap := pushCells (s3.heap.push { cls := .type "dict", data := .dict #[] }) scope.names }
  have nfp : ∀ b ∈ fp, (upd H2 D (SetK X.prog X.w D (fun _ => false) 0)) b = none := fun b hb => (f3 b hb).1.1
  generalize hce : compEnvC scope (cellsFrom (s3.heap.objs.size + 1) scope.names (cloFrom X.env.cells scope.names [])) s3.heap.objs.size X.env = ce at I4 pg pt pe ⊢
  have cL : ce.locals = s3.heap.objs.size := by subst hce; rfl
  generalize hH3 : upd H2 D (SetK X.prog X.w D (fun _ => false) 0) = H3 at I3 I4 pg pt pe w0 nfp f3
  generalize hs4 : ({ s3 with heap := pushCells (s3.heap.push { cls := .type "dict", data := .dict #[] }) scope.names } : Shared) = s4 at I4 ⊢
  have st4 : tn 0 s4.heap := T.keep _ _ _ st3 fun b _ o e => by rw [← hs4]; exact pushCells_keeps _ _ _ _ (Heap.get?_push_of_some _ e)
  have stat : ∀ {σ' : L2.St} {H' : Hp} {s' : Shared}, Inv (X.blk s3 H3 scope ce fp) [] σ' H' s' → (∀ b ∈ fp, H' b = none) → ∀ b ∈ fp, FpOk (X.blk s3 H3 scope ce fp) [] H' b := fun {σ' H' s'} I' hn b hb =>
    ⟨hn b hb, (I'.ok.exf b hb).1, I'.ok.exfs b hb, .inl hb, fun x c e => (I'.ok.exf b hb).2 x c e, fun p hp => absurd (show p ∈ ([] : List (Addr × Obj)) ++ [] from hp) (by simp)⟩
  have loop : codeAny (model X.prog X.w) X.A (.compLoop (.SetComp elt [⟨tg, iter, ifs, 0⟩] scope pos) 0 (.ref it) (.ref D) ce) (compPost (model X.prog X.w) X.A X.xe use Qf (.ref D) s3.heap.objs.size) s4 := by
    refine compLoopS_any (fun n s' => ∃ i H', Inv (X.blk s3 H3 scope ce fp) [] (wipe σ (own.map (·.2))) H' s' ∧ tn i s'.heap ∧ (∀ b ∈ fp, H' b = none) ∧ W i n H') ?_ m0 ⟨0, H3, I4, st4, nfp, w0⟩
    rintro n s5 ⟨i, H5, I5, st5, n5, w5⟩
    rcases turn i n H5 w5 with ⟨stop, qq⟩ | ⟨go, Nx, hNx, step⟩
    · have td := T.done (X.blk s3 H3 scope ce fp) rfl rfl rfl hc i [] s5 _ H5 (fun _ _ => False) I5 (stat I5 n5) st5 stop
      refine thnF td fun r s6 ⟨hr, I6⟩ => ?_
      subst hr
      -- back in the def's context
      have I7 : Inv X pins σ H5 s6 := I3.call' (ch := fp) I6.os I6.base I6.hok I6.bare fun b hb => ⟨(f3 b hb).1.2.2.2.1, (f3 b hb).1.2.1, (f3 b hb).1.2.2.2.2.1, (f3 b hb).1.2.2.2.2.2⟩
      have nC : H5 s3.heap.objs.size = none := by
        have z : H5 ce.locals = none := I6.free
        rw [cL] at z
        exact z
      obtain ⟨m, hn, _⟩ := I6.loc
      have hn : s6.heap.Ns ce.locals m := hn
      rw [cL] at hn
      exact hRR D s3.heap.objs.size s6 m H5 I7 qq hn (I3.fpOk (Nat.le_refl _) nC)
    · have ti := T.item (X.blk s3 H3 scope ce fp) rfl rfl rfl hc i [] s5 _ H5 (fun _ _ => False) I5 (stat I5 n5) st5 go
      refine thnF ti fun r s6 ⟨u, hr, h6⟩ => ?_
      subst hr
      refine thnF h6 fun _ s7 ⟨x, H7, I7, r7, y7, st7, n7⟩ => ?_
      have I7' := I7.pinned (stat I7 n7) (T.obj _ _ st7)
      refine thnF (pg.run _ s7 _ H7 x u _ I7' r7 (step x H7 y7)) fun _ s8 ⟨σ8, H8, I8, hw8, q8⟩ => ?_
      refine thnF (pt.run _ s8 σ8 H8 _ I8 q8) fun b s9 ⟨H9, I9, q9⟩ => ?_
      -- the turn's end
      have fin : ∀ {s' : Shared} {H' : Hp}, Inv (X.blk s3 H3 scope ce fp) ([] ++ pinsAt fp s7.heap) σ8 H' s' → Nx H' → ∃ m, m < n ∧ ∃ i H', Inv (X.blk s3 H3 scope ce fp) [] (wipe σ (own.map (·.2))) H' s' ∧ tn i s'.heap ∧ (∀ b ∈ fp, H' b = none) ∧ W i m H' := fun {s' H'} I' nx => by
        obtain ⟨m', hm, w'⟩ := hNx H' nx
        have pin' : ∀ b ∈ fp, ∀ o, s7.heap.get? b = some o → s'.heap.get? b = some o ∧ H' b = none := fun b hb o e =>
          let z := I'.pin (b, o) (List.mem_append_right _ (List.mem_append_right _ (mem_pinsAt hb e)))
          ⟨z.1, z.2.1⟩
        have hl : (wipe σ (own.map (·.2))).length = σ8.length := by rw [← hw8, wipe_length]
        refine ⟨m', hm, i + 1, H', (I'.unpinned (pins := [])).weak hl (fun j v e => ?_), T.keep _ _ _ st7 fun b hb o e => (pin' b hb o e).1, fun b hb => ?_, w'⟩
        · rw [← hw8] at e
          exact (wipe_some e).1
        · obtain ⟨o, e, _⟩ := T.obj _ _ st7 b hb
          exact (pin' b hb o e).2
      cases b with
      | false =>
        simp only [Bool.false_eq_true, if_false] at q9 ⊢
        exact fin I9 q9
      | true =>
        simp only [if_true] at q9 ⊢
        refine thnF (pe.run _ s9 σ8 H9 _ I9 q9) fun z s10 ⟨yv, H10, I10, r10, cb, S0, n0, ey, hD10, hz10, nx⟩ => ?_
        subst ey
        exact addK_ok (X := X.blk s3 H3 scope ce fp) I10 r10 hD10 hz10 fun s11 I11 => fin I11 nx
  exact codeAny_compStart_set loop (T.self X.A 0 _ _ _ st4 loop)
theorem pe_scK {elt tg iter : Expr} {ifs : List Expr} {scope : Scope} {own : List (PySem.Str × Nat)} {pos : Pos} {wi : TI} {g : TG} {tt : TT} {te : TE} (hc : X.calm = true) (hN : X.N.Nodup) (hi : PI X tg iter wi) (ok : BlkOk X.N X.env.scope scope own)
    (hg : ∀ (s : Shared) (H : Hp) (C : Addr) (cl : List (PySem.Str × Addr)) (fp : List Addr), PG (X.blk s H scope (compEnvC scope cl C X.env) fp) tg g) (ht : ∀ (s : Shared) (H : Hp) (C : Addr) (cl : List (PySem.Str × Addr)) (fp : List Addr), PTs (X.blk s H scope (compEnvC scope cl C X.env) fp) ifs tt)
    (he : ∀ (s : Shared) (H : Hp) (C : Addr) (cl : List (PySem.Str × Addr)) (fp : List Addr), PE (X.blk s H scope (compEnvC scope cl C X.env) fp) elt te) (hs : ∀ x, foldedSetIterable iter X.env x = pure x := by intro _; rfl) :
    PE X (.SetComp elt [⟨tg, iter, ifs, 0⟩] scope pos) (tScK X.prog X.w wi g tt te (own.map (·.2))) := by
  refine ⟨fun pins s σ H Q I h => ?_⟩
  rw [eval_SetComp]
  refine ks_core hc hN I hi ok hg ht he hs h fun D C s' m H' I' q hn f => ⟨m, hn, fun h'' sb => ?_⟩
  obtain ⟨f0, f1, f2, f3, f4, f5⟩ := f
  exact ⟨.ref D, H', I'.turned (t' := s'.toks) (fun b o hb e => (sb.2 b hb).trans e) f0 f1 f3 f4 f5, rfl, q⟩
end
end Ly

namespace Ly
open PySem PySem.Spec PyProof.Rows L2
/-! ### len({el for tg in iter if ..}): the keys, each once -/
def memK (acc : List Key) (j : Key) : Bool := acc.any fun x => decide (j = x)
def addKey (acc : List Key) (k : Key) : List Key := if memK acc k = true then acc else acc ++ [k]
theorem memK_iff {acc : List Key} {j : Key} : memK acc j = true ↔ j ∈ acc := by
  unfold memK
  rw [List.any_eq_true]
  exact ⟨fun ⟨x, h1, h2⟩ => by rw [of_decide_eq_true h2]; exact h1, fun h => ⟨j, h, decide_eq_true rfl⟩⟩
theorem setK_add {P : Program} {w : World} {a : Addr} {acc : List Key} {k : Key} : SetK P w a (fun j => memK acc j || decide (j = k)) (if memK acc k = true then acc.length else acc.length + 1) = SetK P w a (memK (addKey acc k)) (addKey acc k).length := by
  by_cases h : memK acc k = true
  · have e : addKey acc k = acc := if_pos h
    rw [e, if_pos h]
    congr 1
    funext j
    by_cases hj : j = k
    · subst hj
      rw [h]
      rfl
    · rw [decide_eq_false hj, Bool.or_false]
  · have e : addKey acc k = acc ++ [k] := if_neg h
    rw [e, if_neg h, List.length_append]
    congr 1
    funext j
    unfold memK
    rw [List.any_append]
    simp only [List.any_cons, List.any_nil, Bool.or_false]
open Classical in
noncomputable def compS (g : GD) (t : MT) (el : ME) (chk : Mem → Prop) (env : Env) : List D → List Key → Mem → Res (List Key)
  | [], acc, M => if chk M then .ok acc M else .bad
  | d :: ds, acc, M => if chk M then (match g.f d env with
      | some env' => (noX (t env' M)).bind fun c M1 => if c then (noX (el env' M1)).bind fun y M2 => (match keyOf y with
          | some ky => if acc.length < 4000 then compS g t el chk env ds (addKey acc ky) M2 else .bad
          | none => .bad) else compS g t el chk env ds acc M1
      | none => .bad) else .bad
noncomputable def mLenSc (mi : MI) (g : GD) (t : MT) (el : ME) (vs : List Nat) : ME := fun env M => (mi env M).bind fun it M1 => (compS g t el it.chk (wipeD env vs) it.items [] M1).bind fun ks M2 => if ks.length ≤ 4000 then .ok (.int (ks.length : Nat)) M2 else .bad
section
variable {G : Gd} {k : Nat} {E : XK} {N : List Str} {sc : Scope} {X : Cx} {pos p : Pos}
theorem lenSc_sim {mi : MI} {g : GD} {t : MT} {el : ME} {vs : List Nat} (hsl : ∀ i ∈ g.sl, i ∈ vs) {σ : L2.St} {H : Hp} {Q : VK} (h : tD G.K E (mLenSc mi g t el vs) σ H Q) :
    tScK G.P G.w (tID G.K E mi) (gtD G.K g) (tTD G.K E0 t) (tD G.K E0 el) vs σ H (fun v H1 => ∃ (a : Addr) (S : Key → Bool) (n : Nat), [v] = [V.ref a] ∧ H1 a = some (SetK G.P G.w a S n) ∧ n < scanBound ∧ Q (.int (n : Nat)) H1) := by
  obtain ⟨env, L, M, he, hm, h⟩ := h
  refine ⟨env, L, M, he, hm, Fin.imp (Fin.bind h) fun J H1 ⟨it, M1, L1, s1, m1, r1, h1⟩ p hp => ?_⟩
  have e1 := he.step s1
  have op := m1.out hp
  have sb : 4001 < scanBound := by decide
  refine ⟨fun i n H' => ∃ (L' : Wd) (M' : Mem) (acc : List Key), n = it.items.length - i ∧ i ≤ it.items.length ∧ Step L1 H1 L' H' ∧ MemIs G.K (L'.hide p) H' M' ∧ H' p = some (SetK G.P G.w p (memK acc) acc.length) ∧
      Fin (Is G.K) G.K E L1 H1 ((compS g t el it.chk (wipeD env vs) (it.items.drop i) acc M').bind fun ks M2 => if ks.length ≤ 4000 then .ok (.int (ks.length : Nat)) M2 else .bad) Q,
    ⟨_, L1, M1, [], rfl, Nat.zero_le _, (Step.new m1 hp).1, m1.hide hp, ?_, h1⟩, ?_⟩
  · rw [upd_same]
    rfl
  rintro i n H2 ⟨L2, M2, acc, rfl, hi', s2, m2, q2, h2⟩
  have mv2 : Mv L1 H1 (L2.hide p) H2 := s2.mvHide hp
  by_cases hlt : i < it.items.length
  · rw [List.drop_eq_getElem_cons hlt] at h2
    unfold compS at h2
    split at h2
    · rename_i hc
      have itx := r1 (L2.hide p) H2 M2 mv2 m2 hc i
      obtain ⟨go, yl⟩ := itx.1 _ (List.getElem?_eq_getElem hlt)
      refine .inr ⟨go, fun H3 => ∃ (L' : Wd) (M' : Mem) (acc : List Key), Step L1 H1 L' H3 ∧ MemIs G.K (L'.hide p) H3 M' ∧ H3 p = some (SetK G.P G.w p (memK acc) acc.length) ∧
        Fin (Is G.K) G.K E L1 H1 ((compS g t el it.chk (wipeD env vs) (it.items.drop (i + 1)) acc M').bind fun ks M2 => if ks.length ≤ 4000 then .ok (.int (ks.length : Nat)) M2 else .bad) Q, fun H3 ⟨L', M', acc, x1, x2, x3, x5⟩ => ⟨_, by omega, L', M', acc, rfl, hlt, x1, x2, x3, x5⟩, fun x H3 y => ?_⟩
      obtain ⟨s3, m3, r3⟩ := yl x H3 y
      cases q : g.f it.items[i] (wipeD env vs) with
      | none =>
        rw [q] at h2
        exact h2.elim
      | some env3 =>
        rw [q] at h2
        refine ⟨wipeD env vs, L2.hide p, M2, _, env3, ((e1.mv mv2).step s3).wipe vs, m3, r3, q, fun H4 σ4 s4 m4 e4 c4 => ⟨wipe_chg c4 hsl, env3, L2.hide p, M2, e4, m4, ?_⟩⟩
        replace s3 := s3.trans s4
        obtain ⟨s23, e23, s23'⟩ := s2.over hp s3
        cases ht : t env3 M2 with
        | bad =>
          simp only [ht] at h2
          exact h2.elim
        | exc x M =>
          simp only [ht] at h2
          exact h2.elim
        | ok c M4 =>
          simp only [ht] at h2
          intro L5 H5 b5 s5 m5 r5
          cases r5
          obtain ⟨L5', rfl, s15⟩ := s2.over hp (s3.trans s5)
          have q5 := ((s3.trans s5).hid p List.mem_cons_self).trans q2
          cases c with
          | false =>
            rw [if_neg Bool.false_ne_true]
            exact ⟨L5', M4, acc, s15, m5, q5, h2⟩
          | true =>
            rw [if_pos rfl]
            refine ⟨env3, L5'.hide p, M4, e4.step s5, m5, ?_⟩
            replace h2 : Fin (Is G.K) G.K E L1 H1 (((noX (el env3 M4)).bind fun y M2 => (match keyOf y with
              | some ky => if acc.length < 4000 then compS g t el it.chk (wipeD env vs) (it.items.drop (i + 1)) (addKey acc ky) M2 else .bad
              | none => .bad)).bind fun ks M2 => if ks.length ≤ 4000 then .ok (.int (ks.length : Nat)) M2 else .bad) Q := h2
            cases hy : el env3 M4 with
            | bad =>
              rw [hy] at h2
              exact h2.elim
            | exc x M =>
              rw [hy] at h2
              exact h2.elim
            | ok yd M6 =>
              rw [hy] at h2
              intro L7 H7 yv s7 m7 r7
              obtain ⟨L7', rfl, s17⟩ := s2.over hp ((s3.trans s5).trans s7)
              have q7 := (((s3.trans s5).trans s7).hid p List.mem_cons_self).trans q2
              replace h2 : Fin (Is G.K) G.K E L1 H1 ((match keyOf yd with
                | some ky => if acc.length < 4000 then compS g t el it.chk (wipeD env vs) (it.items.drop (i + 1)) (addKey acc ky) M6 else .bad
                | none => .bad).bind fun ks M2 => if ks.length ≤ 4000 then .ok (.int (ks.length : Nat)) M2 else .bad) Q := h2
              cases hk : keyOf yd with
              | none =>
                rw [hk] at h2
                exact h2.elim
              | some ky =>
                rw [hk] at h2
                replace h2 : Fin (Is G.K) G.K E L1 H1 ((if acc.length < 4000 then compS g t el it.chk (wipeD env vs) (it.items.drop (i + 1)) (addKey acc ky) M6 else .bad).bind fun ks M2 => if ks.length ≤ 4000 then .ok (.int (ks.length : Nat)) M2 else .bad) Q := h2
                split at h2
                · rename_i hz
                  refine ⟨ky, _, _, key_ok r7 hk, q7, by omega, L7', M6, addKey acc ky, s17.built op.2 hp, m7.built, ?_, h2⟩
                  rw [upd_same]
                  exact congrArg some setK_add
                · exact h2.elim
    · exact h2.elim
  · have e : i = it.items.length := by omega
    subst e
    rw [List.drop_length] at h2
    unfold compS at h2
    split at h2
    · rename_i hc
      replace h2 : Fin (Is G.K) G.K E L1 H1 (if acc.length ≤ 4000 then .ok (.int (acc.length : Nat)) M2 else .bad) Q := h2
      split at h2
      · rename_i hz
        exact .inl ⟨(r1 (L2.hide p) H2 M2 mv2 m2 hc _).2 rfl, p, _, _, rfl, q2, by omega, h2 L2 H2 _ s2 m2.show (.int _)⟩
      · exact h2.elim
    · exact h2.elim
theorem ce_lenSc {elt tg iter : Expr} {ifs : List Expr} {scope : Scope} {own : List (Str × Nat)} {mi : MI} {g : GD} {t : MT} {el : ME} {spos : Pos} (c : Cq G k E N sc X) (hm : G.mg "len" = none) (hi : PI X tg iter (tID G.K E mi)) (ok : blkC N sc scope own = true) (hk : scope.kind = ScopeKind.function)
    (hg : ∀ Y, Cq G k E0 N (relS scope sc) Y → Y.fn = (fun x => scope.names.lookup x == some .cell) → PG Y tg (gtD G.K g)) (ht : ∀ Y, Cq G k E0 N (relS scope sc) Y → PTs Y ifs (tTD G.K E0 t)) (he : ∀ Y, Cq G k E0 N (relS scope sc) Y → PE Y elt (tD G.K E0 el))
    (hsl : ∀ i ∈ g.sl, i ∈ own.map (·.2)) (hl : sc.names.lookup ("len" : Str) = some NameKind.globalImplicit := by rfl) (hs : ∀ x, foldedSetIterable iter X.env x = pure x := by intro _; rfl) : PE X (.Call (.Name "len" p) [.SetComp elt [⟨tg, iter, ifs, 0⟩] scope spos] [] pos) (tD G.K E (mLenSc mi g t el (own.map (·.2)))) := by
  obtain rfl := c.g
  have h1 := pe_scK (own := own) (pos := spos) c.calm (by rw [c.n]; exact c.nd) hi (by rw [c.n, c.scq]; exact blkOk_by ok) (fun s H C cl fp => hg _ (cq_blk c hk s H C cl fp) rfl) (fun s H C cl fp => ht _ (cq_blk c hk s H C cl fp)) (fun s H C cl fp => he _ (cq_blk c hk s H C cl fp)) hs
  refine (pe_callB call_lenK (show X.env.scope.names.lookup ("len" : Str) = _ by rw [c.scq]; exact hl) hm boot_len (pa_cons h1 pa_nil) (by decide +kernel) (by decide +kernel)).imp fun σ H Q h => ?_
  exact lenSc_sim hsl h
theorem go_lenSc {Q : D → Mem → Prop} {env : Ly.Env} {M : Mem} {mi : MI} {g : GD} {t : MT} {el : ME} {vs : List Nat} : Go (mLenSc mi g t el vs env M) Q = Go (mi env M) fun it M1 => Go (compS g t el it.chk (wipeD env vs) it.items [] M1) fun ks M2 => ks.length ≤ 4000 ∧ Q (.int (ks.length : Nat)) M2 := by
  unfold mLenSc
  rw [go_bind]
  congr 1
  funext it M1
  rw [go_bind]
  congr 1
  funext ks M2
  exact propext ⟨fun h => by
    split at h
    · exact ⟨‹_›, h⟩
    · exact h.elim, fun ⟨h1, h2⟩ => by
    rw [if_pos h1]
    exact h2⟩
theorem go_compS {env : Ly.Env} {g : GD} {t : MT} {chk : Mem → Prop} {el : ME} {Q : List Key → Mem → Prop} (I : List D → List Key → Mem → Prop) (step : ∀ d ds acc M, I (d :: ds) acc M → chk M ∧ ∃ e1, g.f d env = some e1 ∧ Go (t e1 M) fun c M1 => if c then Go (el e1 M1) fun y M2 => ∃ ky, keyOf y = some ky ∧ acc.length < 4000 ∧ I ds (addKey acc ky) M2 else I ds acc M1)
    (done : ∀ acc M, I [] acc M → chk M ∧ Q acc M) : ∀ (ds : List D) (acc : List Key) (M : Mem), I ds acc M → Go (compS g t el chk env ds acc M) Q
  | [], acc, M, h => by
    obtain ⟨h1, h2⟩ := done acc M h
    unfold compS
    rw [if_pos h1]
    exact h2
  | d :: ds, acc, M, h => by
    obtain ⟨h1, e1, h2, h3⟩ := step d ds acc M h
    unfold compS
    rw [if_pos h1, h2]
    obtain ⟨c, M1, q, h3⟩ := h3.ok
    simp only [q, noX, Res.bind]
    cases c with
    | false => exact go_compS I step done ds acc M1 h3
    | true =>
      rw [if_pos rfl] at h3 ⊢
      obtain ⟨y, M2, q2, ky, hk, h5, h6⟩ := h3.ok
      simp only [q2, noX, Res.bind, hk]
      rw [if_pos h5]
      exact go_compS I step done ds (addKey acc ky) M2 h6
/-! ### int(text), text.split(sep) -/
def fIntS : MF := fun ds M => match ds with
  | [.str a] => (match PySem.intText? a with
    | some n => if a.length ≤ 640 then .ok (.int n) M else .bad
    | none => .bad)
  | _ => .bad
theorem rs_intS {K : PySem.W.Frag} : RSC K (fun xs H Q => ∃ a n, xs = [.str a] ∧ PySem.intText? a = some n ∧ a.length ≤ 640 ∧ Q (.int n) H) fIntS := by
  intro E L H M ds xs Q m rl h
  unfold fIntS at h
  split at h
  · obtain ⟨v, rfl, r⟩ := one_inv rl
    cases r
    split at h
    · next n hn =>
      split at h
      · next hz => exact ⟨_, n, rfl, hn, hz, h.end_ m (.int _)⟩
      · exact h.elim
    · exact h.elim
  · exact h.elim
theorem ce_intS {e : Expr} {es : List Expr} {mr : MA} (c : Cq G k E N sc X) (hm : G.mg "int" = none) (ha : PA X (e :: es) (tAD G.K E mr)) (hg : sc.names.lookup ("int" : Str) = some NameKind.globalImplicit := by rfl)
    (he : starEach (e :: es) X.env = (false, eval e X.env) :: starEach es X.env := by rfl) (hpl : (backTo pos (starEach es X.env)).any (·.1) = false := by rfl) :
    PE X (.Call (.Name "int" p) (e :: es) [] pos) (tD G.K E (mCB fIntS mr)) := by
  obtain rfl := c.g
  exact ce_callT call_int_str rs_intS c hg hm (by decide +kernel) ha (by decide +kernel) (by decide +kernel) he hpl
def fSplit : MM := fun d ds M => match d, ds with
  | .str a, [.str b] => if b.length ≠ 0 ∧ a.length ≤ 100000 then .ok (.lst ((Txt.split a b).map D.str)) M else .bad
  | _, _ => .bad
theorem isL_strs {K : PySem.W.Frag} {L : Wd} {H : Hp} : ∀ ys : List Str, IsL K L H (ys.map D.str) (ys.map V.str)
  | [] => .nil
  | y :: ys => .cons (.str y) (isL_strs ys)
theorem rs_split {K : PySem.W.Frag} : RSM K (fun x xs H Q => ∃ a b, x = .str a ∧ xs = [.str b] ∧ (b.length == 0) = false ∧ a.length + 2 ≤ sizeLine ∧ rNewStrs (Txt.split a b) H Q) fSplit := by
  intro E L H M d x ds xs Q m rd rl h
  unfold fSplit at h
  split at h
  · rename_i a b
    split at h
    · rename_i hz
      obtain ⟨v, rfl, r1⟩ := one_inv rl
      cases r1
      cases rd
      have := szOk.le (n := a.length + 2)
      exact ⟨a, b, rfl, rfl, by simpa using hz.1, by unfold sizeLine; omega, fun q hq => new_lst m (isL_strs _) h q hq⟩
    · exact h.elim
  · exact h.elim
theorem ce_split {o e : Expr} {es : List Expr} {mo : ME} {mr : MA} {apos cpos : Pos} (c : Cq G k E N sc X) (ho : PE X o (tD G.K E mo)) (ha : PA X (e :: es) (tAD G.K E mr)) (hbase : attributeBase o "split" X.env (eval o X.env) = eval o X.env := by rfl)
    (hfew : ((backTo cpos (starEach (e :: es) X.env)).all (fun x => !x.1) && (backToKw cpos (keywordEach [] X.env)).all (fun x => x.1.isSome)
      && decide ((e :: es).length + ([] : List Keyword).length + (if ([] : List Keyword).isEmpty then 0 else 1) < 30)) = true := by rfl)
    (hline : (apos.endLine == cpos.line) = true := by rfl) (hs : starEach (e :: es) X.env = (false, eval e X.env) :: starEach es X.env := by rfl) (hplain : (backTo cpos (starEach es X.env)).any (·.1) = false := by rfl) :
    PE X (.Call (.Attribute o "split" apos) (e :: es) [] cpos) (tD G.K E (mMeth isStr fSplit mo mr)) := by
  obtain rfl := c.g
  exact ce_meth PySem.F.plainAttrs_str PySem.F.slot_str_split PySem.F.type_str_split mt_split ty_str rs_split c ho ha hbase hfew hline hs hplain
end
end Ly

namespace Ly
open PySem PySem.Spec PyProof.Rows L2
/-! ### [d[x] for x in d]: the dict is locked meanwhile -/
def mVals (i j : Nat) : ME := fun env M => match env[i]? with
  | some (some d) => (match dicOf d M with
    | some kvs => if kvs.length ≤ 100000 ∧ j < env.length then .ok (.lst (kvs.map fun kv => (valD kvs kv.1).getD .non)) M else .bad
    | none => .bad)
  | _ => .bad
section
variable {K : PySem.W.Frag} {L : Wd} {H : Hp}
theorem vals_isL {F : Key → D} {F' : Key → V} (h : ∀ k, Is K L H (F k) (F' k)) : ∀ {ks : List (Key × D)} {ws : List (Key × V)}, IsKV K L H ks ws → IsL K L H (ks.map fun kv => F kv.1) (ws.map fun kv => F' kv.1)
  | _, _, .nil => .nil
  | _, _, .cons _ b => .cons (h _) (vals_isL h b)
theorem val_some {κ : Type} [DecidableEq κ] {kws : List (κ × V)} {k : κ} {v : V} {i : Nat} (h : kws[i]? = some (k, v)) : ∃ v', valV kws k = some v' := by
  unfold valV
  cases e : kws.find? fun kv => decide (kv.1 = k) with
  | some p => exact ⟨p.2, rfl⟩
  | none =>
    have := List.find?_eq_none.mp e _ (List.mem_of_getElem? h)
    simp at this
theorem upd_three {a D : Addr} {H : Hp} {x y z : HO} (ne : D ≠ a) (ha : H a = some z) : upd (upd (upd H a x) D y) a z = upd H D y := by
  funext b
  by_cases h1 : b = a
  · subst h1
    rw [upd_same, upd_ne (Ne.symm ne)]
    exact ha.symm
  · rw [upd_ne h1]
    by_cases h2 : b = D
    · subst h2
      rw [upd_same, upd_same]
    · rw [upd_ne h2, upd_ne h2, upd_ne h1]
theorem upd_two {D : Addr} {H : Hp} {x y : HO} : upd (upd H D x) D y = upd H D y := by
  funext b
  by_cases h : b = D
  · subst h
    rw [upd_same, upd_same]
  · rw [upd_ne h, upd_ne h, upd_ne h]
end
section
variable {G : Gd} {k : Nat} {E : XK} {N : List Str} {sc : Scope} {X : Cx} {pos : Pos}
abbrev rDix : R2 := fun x y H Q => ∃ a v, x = .ref a ∧ DGet H a y (some v) ∧ Q v H
theorem vals_sim {i j : Nat} (ne : i ≠ j) {σ : L2.St} {H : Hp} {Q : VK} (h : tD G.K E (mVals i j) σ H Q) : tLockE (tLc (iKeys (tVar i)) (gName j) tYes (tOp rDix (tVar i) (tVar j)) [j]) σ H Q := by
  obtain ⟨env, L, M, he, hm, h⟩ := h
  unfold mVals at h
  split at h
  · rename_i d ed
    split at h
    · rename_i kvs hk
      split at h
      · rename_i hz
        obtain ⟨v, ev, rv⟩ := he.at_ i d ed
        obtain ⟨a, kws, rfl, qa, rk⟩ := dicOf_ok hm rv hk
        have hlen : kws.length ≤ 100000 := by
          rw [← rk.length]
          exact hz.1
        have hj : j < σ.length := by
          rw [← he.len]
          exact hz.2
        refine ⟨a, .dK kws, qa, trivial, fun od => ?_⟩
        refine ⟨_, ev, a, od, rfl, .inl ⟨kws, upd_same, fun D hD => ?_⟩⟩
        have nDa : D ≠ a := fun z => by
          subst z
          rw [upd_same] at hD
          cases hD
        have hD0 : H D = none := by rwa [upd_ne nDa] at hD
        let f : Key × V → V := fun kv => (valV kws kv.1).getD .non
        refine ⟨fun idx m H' => m = kws.length - idx ∧ idx ≤ kws.length ∧ H' = upd (upd H a (.frz od (.dK kws))) D (.lst ((kws.take idx).map f)), ⟨kws.length, by simp, Nat.zero_le _, rfl⟩, ?_⟩
        rintro idx m H' ⟨rfl, hi, rfl⟩
        have fz : ∀ y, upd (upd H a (.frz od (.dK kws))) D y a = some (.frz od (.dK kws)) := fun y => by
          rw [upd_ne (Ne.symm nDa), upd_same]
        by_cases hlt : idx < kws.length
        · refine .inr ⟨⟨fz _, hlt⟩, fun H' => H' = upd (upd H a (.frz od (.dK kws))) D (.lst ((kws.take (idx + 1)).map f)), fun H' e => ⟨_, by omega, rfl, hlt, e⟩, ?_⟩
          rintro x H' ⟨rfl, ky, w, hkw, rfl⟩
          obtain ⟨v', hv'⟩ := val_some hkw
          show wipe ((wipe σ [j]).set j (some (kV ky))) [j] = wipe σ [j] ∧ _
          refine ⟨?_, ?_⟩
          · show ((((σ.set j none).set j (some (kV ky)))).set j none) = σ.set j none
            rw [List.set_set, List.set_set]
          · simp only [tYes, if_true]
            have e1 : ((σ.set j none).set j (some (kV ky)))[i]? = some (some (.ref a)) := by
              rw [List.getElem?_set_ne (Ne.symm ne), List.getElem?_set_ne (Ne.symm ne)]
              exact ev
            have e2 : ((σ.set j none).set j (some (kV ky)))[j]? = some (some (kV ky)) := List.getElem?_set_self (by rw [List.length_set]; exact hj)
            refine ⟨_, e1, _, e2, a, v', rfl, .inl ⟨kws, ky, .inr ⟨od, fz _⟩, rfl, hv'.symm⟩, _, upd_same, ?_, ?_⟩
            · rw [List.length_map, List.length_take]
              unfold sizeLine
              omega
            · rw [upd_two, List.take_succ, hkw, List.map_append]
              show _ = upd _ D (.lst (_ ++ [(valV kws ky).getD .non]))
              rw [hv']
              rfl
        · have e : idx = kws.length := by omega
          subst e
          refine .inl ⟨⟨fz _, Nat.le_refl _⟩, fz _, ?_⟩
          rw [upd_three nDa qa, List.take_length]
          refine new_lst hm ?_ h D hD0
          refine vals_isL (F := fun k => (valD kvs k).getD .non) (F' := fun k => (valV kws k).getD .non) (fun ky => ?_) rk
          obtain ⟨z1, z2⟩ := val_ok ky rk
          cases q : valD kvs ky with
          | none =>
            rw [z2 q]
            exact .non
          | some d' =>
            obtain ⟨v', e1, r'⟩ := z1 d' q
            rw [e1]
            exact r'
      · exact h.elim
    · exact h.elim
  · exact h.elim
theorem ce_vals {i j : Nat} {y x : Str} {scope : Scope} {p1 p2 p3 p4 p5 : Pos} (c : Cq G k E N sc X) (hy : N[i]? = some y) (hx : N[j]? = some x) (ne : i ≠ j) (hv : Vis sc y) (ok : blkC N sc scope [(x, j)] = true) (hk : scope.kind = ScopeKind.function)
    (v1 : Vis (relS scope sc) y) (v2 : Vis (relS scope sc) x) (l2 : Loc (relS scope sc) x) (l3 : scope.names.lookup x = some .cell ∨ (relS scope sc).names.lookup x = some NameKind.local) (d1 : (y == ("__debug__" : Str)) = false := by decide +kernel) (d2 : (y == ("__classdict__" : Str)) = false := by decide +kernel) (d3 : (x == ("__debug__" : Str)) = false := by decide +kernel) (d4 : (x == ("__classdict__" : Str)) = false := by decide +kernel)
    (hs : ∀ z, foldedSetIterable (.Name y p1) X.env z = pure z := by intro _; rfl) : PE X (.ListComp (.Subscript (.Name y p2) (.Name x p3) p4) [⟨.Name x p5, .Name y p1, [], 0⟩] scope pos) (tD G.K E (mVals i j)) := by
  have hb : ∀ Y, Cq G k E0 N (relS scope sc) Y → PE Y (.Subscript (.Name y p2) (.Name x p3) p4) (tOp rDix (tVar i) (tVar j)) := fun Y cY =>
    pe_ix (ix_dict (hu_of cY.room)) (pe_var (by rw [cY.n]; exact hy) (by rw [cY.scq]; exact v1) d1 d2) (pe_var (by rw [cY.n]; exact hx) (by rw [cY.scq]; exact v2) d3 d4) (by intro _ _; rfl)
  have hg : ∀ Y, Cq G k E0 N (relS scope sc) Y → Y.fn = (fun x => scope.names.lookup x == some .cell) → PG Y (.Name x p5) (gName j) := fun Y cY hf =>
    pg_name (by rw [cY.n]; exact cY.nd) (by rw [cY.n]; exact hx) (by rw [cY.scq]; exact l2) (by
      rw [cY.scq, hf]
      rcases l3 with z | z
      · exact .inl (by simp only [z]; rfl)
      · exact .inr z)
  have h1 := pe_lc (X := X) (own := [(x, j)]) (pos := pos) c.calm (by rw [c.n]; exact c.nd) (pi_keys (tg := .Name x p5) (pe_var (i := i) (pos := p1) (by rw [c.n]; exact hy) (by rw [c.scq]; exact hv) d1 d2)) (by rw [c.n, c.scq]; exact blkOk_by ok) (fun s H C cl fp => hg _ (cq_blk c hk s H C cl fp) rfl) (fun s H C cl fp => pts_nil) (fun s H C cl fp => hb _ (cq_blk c hk s H C cl fp)) hs
  exact (pe_lock h1).imp fun σ H Q h => vals_sim ne h
theorem go_vals {i j : Nat} {env : Ly.Env} {M : Mem} {Q : D → Mem → Prop} {d : D} {kvs : List (Key × D)} (h1 : env[i]? = some (some d)) (h2 : dicOf d M = some kvs) (h3 : kvs.length ≤ 100000) (h4 : j < env.length) : Go (mVals i j env M) Q = Q (.lst (kvs.map fun kv => (valD kvs kv.1).getD .non)) M := by
  unfold mVals
  rw [h1]
  simp only [h2]
  rw [if_pos ⟨h3, h4⟩]
  rfl
end
end Ly

namespace K18
open PySem PySem.Spec PyProof.Rows L2 Ly
def top (i : Nat) : Stmt := PySem.Challenge.pw_pointhouse_k18_sketches_written_and_read.main.body.getD i (.Pass ⟨0, 0, 0, 0⟩)
def t_FORMS : List (Str × D) := [("free", .str ""), ("on", .str "L"), ("round", .str "C"), ("meet", .str "LL"), ("middle", .str "PP"), ("foot", .str "PL"), ("mirror", .str "PL"), ("turn", .str "PPn"), ("other", .str "LCP"), ("cross", .str "LCk"), ("line", .str "PP"), ("along", .str "PL"), ("upright", .str "PL"), ("circle", .str "PP")]
def t_SORTS : List (Str × D) := [("P", .str "point"), ("L", .str "line"), ("C", .str "circle")]
def t_NUMBERS : List (Str × D) := [("n", .tup [.int 1, .int 3]), ("k", .tup [.int 0, .int 1])]
/-! ### is_name -/
noncomputable def m_is_name : MS := (mRet (mAndV (mCB fIsi (mCons (mVar 0) (mCons (mC (.ty "str")) mNil))) (mAndV (mChain opLe opLe (mC (.int 1)) (mCB fLen (mCons (mVar 0) mNil)) (mC (.int 8))) (mCB (fBools fun bs => bs.all id) (mCons (mLc (mIter (mVar 0)) (gN 1) mYes (mBin opIn (mVar 1) (mC (.str "abcdefghijklmnopqrstuvwxyz"))) [1]) mNil)))))
noncomputable def f_is_name : MF := callD 2 m_is_name
theorem sc_is_name : FnScope ["thing", "sign"] ["thing"] (defScope (top 13)) := ⟨rfl, rfl, rfl, by decide +kernel, rfl, by decide +kernel, by decide +kernel⟩
theorem w_is_name {G : Gd} (k_MOST_LETTERS : ∃ t, G.mg "MOST_LETTERS" = some (.int 8 t)) (k_LETTERS : ∃ t, G.mg "LETTERS" = some (.str "abcdefghijklmnopqrstuvwxyz" t)) (b_str : G.mg "str" = none) (b_isinstance : G.mg "isinstance" = none) (b_len : G.mg "len" = none) (b_all : G.mg "all" = none) (X : Cx) (E : XK) (c : Cq G 0 E ["thing", "sign"] (defScope (top 13)) X) (hf : X.fn = fun _ => true) : PSs X (defBody (top 13)) (sD G.K E m_is_name) := by
  exact (css_one (cs_ret (ce_and (ce_isi c b_isinstance (ca_cons (ce_var (i := 0) c rfl (vis_by rfl)) (ca_cons (ce_ty c b_str rfl (by decide +kernel)) ca_nil))) (ce_and (ce_chainLe ce_int (ce_len c b_len (ca_cons (ce_var (i := 0) c rfl (vis_by rfl)) ca_nil)) (ce_gint c k_MOST_LETTERS rfl)) (ce_one (ce_all c b_all (ca_cons (ce_lc (own := [("sign", 1)]) c (ci_any c (ce_var (i := 0) c rfl (vis_by rfl))) rfl rfl (fun _ cx hfcx => (cg_name (i := 1) cx rfl (loc_by rfl) (fnC hfcx (by first | exact .inr rfl | exact .inl rfl)))) (fun _ cx => cts_nil) (fun _ cx => (ce_in cx (ce_var (i := 1) cx rfl (vis_by rfl)) (ce_gstr cx k_LETTERS rfl))) (by decide)) ca_nil)))))))
theorem C_is_name {G : Gd} {fd : FuncData} (k_MOST_LETTERS : ∃ t, G.mg "MOST_LETTERS" = some (.int 8 t)) (k_LETTERS : ∃ t, G.mg "LETTERS" = some (.str "abcdefghijklmnopqrstuvwxyz" t)) (b_str : G.mg "str" = none) (b_isinstance : G.mg "isinstance" = none) (b_len : G.mg "len" = none) (b_all : G.mg "all" = none) (F : FunD G.K "is_name" "is_name" (defArgs (top 13)) (defBody (top 13)) (defScope (top 13)) [] [] (He.ga G.K "is_name") fd) (g : G.mg "is_name" = some (.ref (He.ga G.K "is_name"))) : Cal G 1 "is_name" ["thing"] f_is_name :=
  cal_D F sc_is_name g (fun _ _ _ _ _ _ us hl => match us, hl with | [_], _ => rfl) (w_is_name k_MOST_LETTERS k_LETTERS b_str b_isinstance b_len b_all)
/-! ### is_within -/
noncomputable def m_is_within : MS := (mRet (mAndV (mCB fIsi (mCons (mVar 2) (mCons (mC (.ty "int")) mNil))) (mAndV (mNotV (mCB fIsi (mCons (mVar 2) (mCons (mC (.ty "bool")) mNil)))) (mChain opLe opLe (mVar 0) (mVar 2) (mVar 1)))))
noncomputable def f_is_within : MF := callD 3 m_is_within
theorem sc_is_within : FnScope ["low", "high", "thing"] ["low", "high", "thing"] (defScope (top 14)) := ⟨rfl, rfl, rfl, by decide +kernel, rfl, by decide +kernel, by decide +kernel⟩
theorem w_is_within {G : Gd} (b_int : G.mg "int" = none) (b_isinstance : G.mg "isinstance" = none) (b_bool : G.mg "bool" = none) (X : Cx) (E : XK) (c : Cq G 0 E ["low", "high", "thing"] (defScope (top 14)) X) (hf : X.fn = fun _ => true) : PSs X (defBody (top 14)) (sD G.K E m_is_within) := by
  exact (css_one (cs_ret (ce_and (ce_isi c b_isinstance (ca_cons (ce_var (i := 2) c rfl (vis_by rfl)) (ca_cons (ce_ty c b_int rfl (by decide +kernel)) ca_nil))) (ce_and (ce_not (ce_isi c b_isinstance (ca_cons (ce_var (i := 2) c rfl (vis_by rfl)) (ca_cons (ce_ty c b_bool rfl (by decide +kernel)) ca_nil)))) (ce_one (ce_chainLe (ce_var (i := 0) c rfl (vis_by rfl)) (ce_var (i := 2) c rfl (vis_by rfl)) (ce_var (i := 1) c rfl (vis_by rfl))))))))
theorem C_is_within {G : Gd} {fd : FuncData} (b_int : G.mg "int" = none) (b_isinstance : G.mg "isinstance" = none) (b_bool : G.mg "bool" = none) (F : FunD G.K "is_within" "is_within" (defArgs (top 14)) (defBody (top 14)) (defScope (top 14)) [] [] (He.ga G.K "is_within") fd) (g : G.mg "is_within" = some (.ref (He.ga G.K "is_within"))) : Cal G 1 "is_within" ["low", "high", "thing"] f_is_within :=
  cal_D F sc_is_within g (fun _ _ _ _ _ _ us hl => match us, hl with | [_, _, _], _ => rfl) (w_is_within b_int b_isinstance b_bool)
/-! ### sort_of -/
noncomputable def m_sort_of : MS := (mSeq (mIfS (mTest (mBin opEq (mBin opIx (mVar 0) (mC (.int 0))) (mC (.str "circle")))) (mRet (mC (.str "circle"))) mNext)
  (mRet (mIf (mTest (mBin opIn (mBin opIx (mVar 0) (mC (.int 0))) (mC (.tup [.str "line", .str "along", .str "upright"])))) (mC (.str "line")) (mC (.str "point")))))
noncomputable def f_sort_of : MF := callD 1 m_sort_of
theorem sc_sort_of : FnScope ["step"] ["step"] (defScope (top 15)) := ⟨rfl, rfl, rfl, by decide +kernel, rfl, by decide +kernel, by decide +kernel⟩
theorem w_sort_of {G : Gd} (k_CIRCLE : ∃ t, G.mg "CIRCLE" = some (.str "circle" t)) (k_LINES : G.mg "LINES" = some (.ref (He.ga G.K "LINES")) ∧ KIs G.K (.tup [.str "line", .str "along", .str "upright"]) (He.ga G.K "LINES")) (k_LINE : ∃ t, G.mg "LINE" = some (.str "line" t)) (k_POINT : ∃ t, G.mg "POINT" = some (.str "point" t)) (X : Cx) (E : XK) (c : Cq G 0 E ["step"] (defScope (top 15)) X) (hf : X.fn = fun _ => true) : PSs X (defBody (top 15)) (sD G.K E m_sort_of) := by
  exact (css_cons (cs_if (ct_eq c (ce_ix c (ce_var (i := 0) c rfl (vis_by rfl)) ce_int) (ce_gstr c k_CIRCLE rfl)) (css_one (cs_ret (ce_gstr c k_CIRCLE rfl))) css_nil)
  (css_one (cs_ret (ce_if (ct_in c (ce_ix c (ce_var (i := 0) c rfl (vis_by rfl)) ce_int) (ce_gdat c k_LINES.2 k_LINES.1 rfl)) (ce_gstr c k_LINE rfl) (ce_gstr c k_POINT rfl)))))
theorem C_sort_of {G : Gd} {fd : FuncData} (k_CIRCLE : ∃ t, G.mg "CIRCLE" = some (.str "circle" t)) (k_LINES : G.mg "LINES" = some (.ref (He.ga G.K "LINES")) ∧ KIs G.K (.tup [.str "line", .str "along", .str "upright"]) (He.ga G.K "LINES")) (k_LINE : ∃ t, G.mg "LINE" = some (.str "line" t)) (k_POINT : ∃ t, G.mg "POINT" = some (.str "point" t)) (F : FunD G.K "sort_of" "sort_of" (defArgs (top 15)) (defBody (top 15)) (defScope (top 15)) [] [] (He.ga G.K "sort_of") fd) (g : G.mg "sort_of" = some (.ref (He.ga G.K "sort_of"))) : Cal G 1 "sort_of" ["step"] f_sort_of :=
  cal_D F sc_sort_of g (fun _ _ _ _ _ _ us hl => match us, hl with | [_], _ => rfl) (w_sort_of k_CIRCLE k_LINES k_LINE k_POINT)
/-! ### names_in -/
noncomputable def m_names_in : MS := (mSeq (mAsg (mVar 0) (gStarD 3 2 [(gN 1), (gN 2), (gN 3)]))
  (mRet (mCB fTuple (mCons (mLc (mIter (mVar 3)) (gN 4) (mTest (mCB fIsi (mCons (mVar 4) (mCons (mC (.ty "str")) mNil)))) (mVar 4) [4]) mNil))))
noncomputable def f_names_in : MF := callD 5 m_names_in
theorem sc_names_in : FnScope ["step", "word", "own", "others", "one"] ["step"] (defScope (top 16)) := ⟨rfl, rfl, rfl, by decide +kernel, rfl, by decide +kernel, by decide +kernel⟩
theorem w_names_in {G : Gd} (b_str : G.mg "str" = none) (b_isinstance : G.mg "isinstance" = none) (b_tuple : G.mg "tuple" = none) (X : Cx) (E : XK) (c : Cq G 0 E ["step", "word", "own", "others", "one"] (defScope (top 16)) X) (hf : X.fn = fun _ => true) : PSs X (defBody (top 16)) (sD G.K E m_names_in) := by
  exact (css_cons (cs_asg (ce_var (i := 0) c rfl (vis_by rfl)) (cg_star c (cgs_cons (cg_name (i := 1) c rfl (loc_by rfl) (fnT hf)) (cgs_cons (cg_name (i := 2) c rfl (loc_by rfl) (fnT hf)) (cgs_star (cg_name (i := 3) c rfl (loc_by rfl) (fnT hf)) cgs_nil)))))
  (css_one (cs_ret (ce_tuple c b_tuple (ca_cons (ce_lc (own := [("one", 4)]) c (ci_any c (ce_var (i := 3) c rfl (vis_by rfl))) rfl rfl (fun _ cx hfcx => (cg_name (i := 4) cx rfl (loc_by rfl) (fnC hfcx (by first | exact .inr rfl | exact .inl rfl)))) (fun _ cx => (cts_one (ct_val (ce_isi cx b_isinstance (ca_cons (ce_var (i := 4) cx rfl (vis_by rfl)) (ca_cons (ce_ty cx b_str rfl (by decide +kernel)) ca_nil)))))) (fun _ cx => (ce_var (i := 4) cx rfl (vis_by rfl))) (by decide)) ca_nil)))))
theorem C_names_in {G : Gd} {fd : FuncData} (b_str : G.mg "str" = none) (b_isinstance : G.mg "isinstance" = none) (b_tuple : G.mg "tuple" = none) (F : FunD G.K "names_in" "names_in" (defArgs (top 16)) (defBody (top 16)) (defScope (top 16)) [] [] (He.ga G.K "names_in") fd) (g : G.mg "names_in" = some (.ref (He.ga G.K "names_in"))) : Cal G 1 "names_in" ["step"] f_names_in :=
  cal_D F sc_names_in g (fun _ _ _ _ _ _ us hl => match us, hl with | [_], _ => rfl) (w_names_in b_str b_isinstance b_tuple)
/-! ### is_thing -/
noncomputable def m_is_thing : MS := (mSeq (mIfS (mTest (mUn (opInTab t_NUMBERS) (mVar 1))) (mSeq (mAsg (mUn (opTab t_NUMBERS) (mVar 1)) (gU [(gN 3), (gN 4)]))
  (mRet (mCall 3 f_is_within (mCons (mVar 3) (mCons (mVar 4) (mCons (mVar 2) mNil)))))) mNext)
  (mRet (mAndV (mCB fIsi (mCons (mVar 2) (mCons (mC (.ty "str")) mNil))) (mAndV (mBin opIn (mVar 2) (mVar 0)) (mBin opEq (mCall 1 f_sort_of (mCons (mBin opIx (mVar 0) (mVar 2)) mNil)) (mUn (opTab t_SORTS) (mVar 1)))))))
noncomputable def f_is_thing : MF := callD 5 m_is_thing
theorem sc_is_thing : FnScope ["known", "sign", "thing", "low", "high"] ["known", "sign", "thing"] (defScope (top 17)) := ⟨rfl, rfl, rfl, by decide +kernel, rfl, by decide +kernel, by decide +kernel⟩
theorem w_is_thing {G : Gd} (k_NUMBERS : KTab G "NUMBERS" t_NUMBERS) (k_SORTS : KTab G "SORTS" t_SORTS) (b_str : G.mg "str" = none) (b_isinstance : G.mg "isinstance" = none) (C_is_within : Cal G 1 "is_within" ["low", "high", "thing"] f_is_within) (C_sort_of : Cal G 1 "sort_of" ["step"] f_sort_of) (X : Cx) (E : XK) (c : Cq G 1 E ["known", "sign", "thing", "low", "high"] (defScope (top 17)) X) (hf : X.fn = fun _ => true) : PSs X (defBody (top 17)) (sD G.K E m_is_thing) := by
  have hj_is_within : 1 ≤ 1 := by decide
  have hj_sort_of : 1 ≤ 1 := by decide
  exact (css_cons (cs_if (ct_inTab k_NUMBERS c rfl (ce_var (i := 1) c rfl (vis_by rfl))) (css_cons (cs_asg (ce_ixTab k_NUMBERS c rfl (ce_var (i := 1) c rfl (vis_by rfl))) (cg_unp c (cgs_cons (cg_name (i := 3) c rfl (loc_by rfl) (fnT hf)) (cgs_cons (cg_name (i := 4) c rfl (loc_by rfl) (fnT hf)) cgs_nil))))
  (css_one (cs_ret (ce_call C_is_within hj_is_within c rfl (ca_cons (ce_var (i := 3) c rfl (vis_by rfl)) (ca_cons (ce_var (i := 4) c rfl (vis_by rfl)) (ca_cons (ce_var (i := 2) c rfl (vis_by rfl)) ca_nil))))))) css_nil)
  (css_one (cs_ret (ce_and (ce_isi c b_isinstance (ca_cons (ce_var (i := 2) c rfl (vis_by rfl)) (ca_cons (ce_ty c b_str rfl (by decide +kernel)) ca_nil))) (ce_and (ce_in c (ce_var (i := 2) c rfl (vis_by rfl)) (ce_var (i := 0) c rfl (vis_by rfl))) (ce_one (ce_eq c (ce_call C_sort_of hj_sort_of c rfl (ca_cons (ce_ix c (ce_var (i := 0) c rfl (vis_by rfl)) (ce_var (i := 2) c rfl (vis_by rfl))) ca_nil)) (ce_ixTab k_SORTS c rfl (ce_var (i := 1) c rfl (vis_by rfl))))))))))
theorem C_is_thing {G : Gd} {fd : FuncData} (k_NUMBERS : KTab G "NUMBERS" t_NUMBERS) (k_SORTS : KTab G "SORTS" t_SORTS) (b_str : G.mg "str" = none) (b_isinstance : G.mg "isinstance" = none) (C_is_within : Cal G 1 "is_within" ["low", "high", "thing"] f_is_within) (C_sort_of : Cal G 1 "sort_of" ["step"] f_sort_of) (F : FunD G.K "is_thing" "is_thing" (defArgs (top 17)) (defBody (top 17)) (defScope (top 17)) [] [] (He.ga G.K "is_thing") fd) (g : G.mg "is_thing" = some (.ref (He.ga G.K "is_thing"))) : Cal G 2 "is_thing" ["known", "sign", "thing"] f_is_thing :=
  cal_D F sc_is_thing g (fun _ _ _ _ _ _ us hl => match us, hl with | [_, _, _], _ => rfl) (w_is_thing k_NUMBERS k_SORTS b_str b_isinstance C_is_within C_sort_of)
/-! ### is_through -/
noncomputable def m_is_through : MS := (mSeq (mAsg (mVar 0) (gU [(gN 2), (gN 3), (gN 4), (gN 5)]))
  (mRet (mOrV (mBin opEq (mVar 1) (mVar 4)) (mAndV (mBin opEq (mVar 2) (mC (.str "line"))) (mBin opEq (mVar 1) (mVar 5))))))
noncomputable def f_is_through : MF := callD 6 m_is_through
theorem sc_is_through : FnScope ["line", "point", "word", "own", "first", "other"] ["line", "point"] (defScope (top 18)) := ⟨rfl, rfl, rfl, by decide +kernel, rfl, by decide +kernel, by decide +kernel⟩
theorem w_is_through {G : Gd} (k_LINE : ∃ t, G.mg "LINE" = some (.str "line" t)) (X : Cx) (E : XK) (c : Cq G 0 E ["line", "point", "word", "own", "first", "other"] (defScope (top 18)) X) (hf : X.fn = fun _ => true) : PSs X (defBody (top 18)) (sD G.K E m_is_through) := by
  exact (css_cons (cs_asg (ce_var (i := 0) c rfl (vis_by rfl)) (cg_unp c (cgs_cons (cg_name (i := 2) c rfl (loc_by rfl) (fnT hf)) (cgs_cons (cg_name (i := 3) c rfl (loc_by rfl) (fnT hf)) (cgs_cons (cg_name (i := 4) c rfl (loc_by rfl) (fnT hf)) (cgs_cons (cg_name (i := 5) c rfl (loc_by rfl) (fnT hf)) cgs_nil))))))
  (css_one (cs_ret (ce_or (ce_eq c (ce_var (i := 1) c rfl (vis_by rfl)) (ce_var (i := 4) c rfl (vis_by rfl))) (ce_one (ce_and (ce_eq c (ce_var (i := 2) c rfl (vis_by rfl)) (ce_gstr c k_LINE rfl)) (ce_one (ce_eq c (ce_var (i := 1) c rfl (vis_by rfl)) (ce_var (i := 5) c rfl (vis_by rfl))))))))))
theorem C_is_through {G : Gd} {fd : FuncData} (k_LINE : ∃ t, G.mg "LINE" = some (.str "line" t)) (F : FunD G.K "is_through" "is_through" (defArgs (top 18)) (defBody (top 18)) (defScope (top 18)) [] [] (He.ga G.K "is_through") fd) (g : G.mg "is_through" = some (.ref (He.ga G.K "is_through"))) : Cal G 1 "is_through" ["line", "point"] f_is_through :=
  cal_D F sc_is_through g (fun _ _ _ _ _ _ us hl => match us, hl with | [_, _], _ => rfl) (w_is_through k_LINE)
/-! ### is_met -/
noncomputable def m_is_met : MS := (mSeq (mAsg (mVar 1) (gStarD 3 2 [(gN 2), (gN 3), (gN 4)]))
  (mSeq (mIfS (mTest (mBin opNe (mVar 2) (mC (.str "other")))) (mRet (mC (.bl true))) mNext)
  (mSeq (mAsg (mVar 4) (gU [(gN 5), (gN 6), (gN 7)]))
  (mRet (mAndV (mCall 2 f_is_through (mCons (mBin opIx (mVar 0) (mVar 5)) (mCons (mVar 7) mNil))) (mBin opEq (mBin opIx (mBin opIx (mVar 0) (mVar 6)) (mC (.int 3))) (mVar 7)))))))
noncomputable def f_is_met : MF := callD 8 m_is_met
theorem sc_is_met : FnScope ["known", "step", "word", "own", "others", "line", "circle", "point"] ["known", "step"] (defScope (top 19)) := ⟨rfl, rfl, rfl, by decide +kernel, rfl, by decide +kernel, by decide +kernel⟩
theorem w_is_met {G : Gd} (C_is_through : Cal G 1 "is_through" ["line", "point"] f_is_through) (X : Cx) (E : XK) (c : Cq G 1 E ["known", "step", "word", "own", "others", "line", "circle", "point"] (defScope (top 19)) X) (hf : X.fn = fun _ => true) : PSs X (defBody (top 19)) (sD G.K E m_is_met) := by
  have hj_is_through : 1 ≤ 1 := by decide
  exact (css_cons (cs_asg (ce_var (i := 1) c rfl (vis_by rfl)) (cg_star c (cgs_cons (cg_name (i := 2) c rfl (loc_by rfl) (fnT hf)) (cgs_cons (cg_name (i := 3) c rfl (loc_by rfl) (fnT hf)) (cgs_star (cg_name (i := 4) c rfl (loc_by rfl) (fnT hf)) cgs_nil)))))
  (css_cons (cs_if (ct_ne c (ce_var (i := 2) c rfl (vis_by rfl)) ce_str) (css_one (cs_ret ce_bl)) css_nil)
  (css_cons (cs_asg (ce_var (i := 4) c rfl (vis_by rfl)) (cg_unp c (cgs_cons (cg_name (i := 5) c rfl (loc_by rfl) (fnT hf)) (cgs_cons (cg_name (i := 6) c rfl (loc_by rfl) (fnT hf)) (cgs_cons (cg_name (i := 7) c rfl (loc_by rfl) (fnT hf)) cgs_nil)))))
  (css_one (cs_ret (ce_and (ce_call C_is_through hj_is_through c rfl (ca_cons (ce_ix c (ce_var (i := 0) c rfl (vis_by rfl)) (ce_var (i := 5) c rfl (vis_by rfl))) (ca_cons (ce_var (i := 7) c rfl (vis_by rfl)) ca_nil))) (ce_one (ce_eq c (ce_ix c (ce_ix c (ce_var (i := 0) c rfl (vis_by rfl)) (ce_var (i := 6) c rfl (vis_by rfl))) ce_int) (ce_var (i := 7) c rfl (vis_by rfl))))))))))
theorem C_is_met {G : Gd} {fd : FuncData} (C_is_through : Cal G 1 "is_through" ["line", "point"] f_is_through) (F : FunD G.K "is_met" "is_met" (defArgs (top 19)) (defBody (top 19)) (defScope (top 19)) [] [] (He.ga G.K "is_met") fd) (g : G.mg "is_met" = some (.ref (He.ga G.K "is_met"))) : Cal G 2 "is_met" ["known", "step"] f_is_met :=
  cal_D F sc_is_met g (fun _ _ _ _ _ _ us hl => match us, hl with | [_, _], _ => rfl) (w_is_met C_is_through)
/-! ### fits_behind -/
noncomputable def m_fits_behind : MS := (mSeq (mIfS (mOrT (mNotT (mTest (mCB fIsi (mCons (mVar 1) (mCons (mC (.ty "tuple")) mNil))))) (mOrT (mTest (mBin opLt (mCB fLen (mCons (mVar 1) mNil)) (mC (.int 2)))) (mOrT (mNotT (mTest (mCB fIsi (mCons (mBin opIx (mVar 1) (mC (.int 0))) (mCons (mC (.ty "str")) mNil))))) (mTest (mUn (opNotInTab t_FORMS) (mBin opIx (mVar 1) (mC (.int 0)))))))) (mRet (mC (.bl false))) mNext)
  (mSeq (mAsg (mVar 1) (gStarD 3 2 [(gN 2), (gN 3), (gN 4)]))
  (mSeq (mAsg (mUn (opTab t_FORMS) (mVar 2)) (gN 5))
  (mSeq (mIfS (mOrT (mNotT (mTest (mCall 1 f_is_name (mCons (mVar 3) mNil)))) (mOrT (mTest (mBin opIn (mVar 3) (mVar 0))) (mTest (mBin opNe (mCB fLen (mCons (mVar 4) mNil)) (mCB fLen (mCons (mVar 5) mNil)))))) (mRet (mC (.bl false))) mNext)
  (mSeq (mIfS (mNotT (mTest (mCB (fBools fun bs => bs.all id) (mCons (mLc (mRng (zipF true) (mCons (mVar 5) (mCons (mVar 4) mNil))) (gT [(gN 7), (gN 8)]) mYes (mCall 3 f_is_thing (mCons (mVar 0) (mCons (mVar 7) (mCons (mVar 8) mNil)))) [7, 8]) mNil)))) (mRet (mC (.bl false))) mNext)
  (mSeq (mAsg (mCall 1 f_names_in (mCons (mVar 1) mNil)) (gN 6))
  (mRet (mAndV (mBin opEq (mLenSc (mIter (mVar 6)) (gN 9) mYes (mVar 9) [9]) (mCB fLen (mCons (mVar 6) mNil))) (mCall 2 f_is_met (mCons (mVar 0) (mCons (mVar 1) mNil)))))))))))
noncomputable def f_fits_behind : MF := callD 10 m_fits_behind
theorem sc_fits_behind : FnScope ["known", "thing", "word", "own", "others", "form", "named", "sign", "other", "name"] ["known", "thing"] (defScope (top 20)) := ⟨rfl, rfl, rfl, by decide +kernel, rfl, by decide +kernel, by decide +kernel⟩
theorem w_fits_behind {G : Gd} (k_FORMS : KTab G "FORMS" t_FORMS) (b_tuple : G.mg "tuple" = none) (b_isinstance : G.mg "isinstance" = none) (b_len : G.mg "len" = none) (b_str : G.mg "str" = none) (b_zip : G.mg "zip" = none) (b_all : G.mg "all" = none) (C_is_name : Cal G 1 "is_name" ["thing"] f_is_name) (C_is_thing : Cal G 2 "is_thing" ["known", "sign", "thing"] f_is_thing) (C_names_in : Cal G 1 "names_in" ["step"] f_names_in) (C_is_met : Cal G 2 "is_met" ["known", "step"] f_is_met) (X : Cx) (E : XK) (c : Cq G 2 E ["known", "thing", "word", "own", "others", "form", "named", "sign", "other", "name"] (defScope (top 20)) X) (hf : X.fn = fun _ => true) : PSs X (defBody (top 20)) (sD G.K E m_fits_behind) := by
  have hj_is_name : 1 ≤ 2 := by decide
  have hj_is_thing : 2 ≤ 2 := by decide
  have hj_names_in : 1 ≤ 2 := by decide
  have hj_is_met : 2 ≤ 2 := by decide
  exact (css_cons (cs_if (cw_or (ct_not (ct_val (ce_isi c b_isinstance (ca_cons (ce_var (i := 1) c rfl (vis_by rfl)) (ca_cons (ce_ty c b_tuple rfl (by decide +kernel)) ca_nil))))) (cw_or (ct_lt c (ce_len c b_len (ca_cons (ce_var (i := 1) c rfl (vis_by rfl)) ca_nil)) ce_int) (cw_or (ct_not (ct_val (ce_isi c b_isinstance (ca_cons (ce_ix c (ce_var (i := 1) c rfl (vis_by rfl)) ce_int) (ca_cons (ce_ty c b_str rfl (by decide +kernel)) ca_nil))))) (cw_one_or (ct_notInTab k_FORMS c rfl (ce_ix c (ce_var (i := 1) c rfl (vis_by rfl)) ce_int)))))).pt (css_one (cs_ret ce_bl)) css_nil)
  (css_cons (cs_asg (ce_var (i := 1) c rfl (vis_by rfl)) (cg_star c (cgs_cons (cg_name (i := 2) c rfl (loc_by rfl) (fnT hf)) (cgs_cons (cg_name (i := 3) c rfl (loc_by rfl) (fnT hf)) (cgs_star (cg_name (i := 4) c rfl (loc_by rfl) (fnT hf)) cgs_nil)))))
  (css_cons (cs_set (i := 5) c rfl (loc_by rfl) (fnT hf) (ce_ixTab k_FORMS c rfl (ce_var (i := 2) c rfl (vis_by rfl))))
  (css_cons (cs_if (cw_or (ct_not (ct_val (ce_call C_is_name hj_is_name c rfl (ca_cons (ce_var (i := 3) c rfl (vis_by rfl)) ca_nil)))) (cw_or (ct_in c (ce_var (i := 3) c rfl (vis_by rfl)) (ce_var (i := 0) c rfl (vis_by rfl))) (cw_one_or (ct_ne c (ce_len c b_len (ca_cons (ce_var (i := 4) c rfl (vis_by rfl)) ca_nil)) (ce_len c b_len (ca_cons (ce_var (i := 5) c rfl (vis_by rfl)) ca_nil)))))).pt (css_one (cs_ret ce_bl)) css_nil)
  (css_cons (cs_if (ct_not (ct_val (ce_all c b_all (ca_cons (ce_lc (own := [("sign", 7), ("other", 8)]) c (ci_zipS c rfl b_zip (ca_cons (ce_var (i := 5) c rfl (vis_by rfl)) (ca_cons (ce_var (i := 4) c rfl (vis_by rfl)) ca_nil))) rfl rfl (fun _ cx hfcx => (cg_tup cx (cgs_cons (cg_name (i := 7) cx rfl (loc_by rfl) (fnC hfcx (by first | exact .inr rfl | exact .inl rfl))) (cgs_cons (cg_name (i := 8) cx rfl (loc_by rfl) (fnC hfcx (by first | exact .inr rfl | exact .inl rfl))) cgs_nil)))) (fun _ cx => cts_nil) (fun _ cx => (ce_call C_is_thing hj_is_thing cx rfl (ca_cons (ce_var (i := 0) cx rfl (vis_by rfl)) (ca_cons (ce_var (i := 7) cx rfl (vis_by rfl)) (ca_cons (ce_var (i := 8) cx rfl (vis_by rfl)) ca_nil))))) (by decide)) ca_nil)))) (css_one (cs_ret ce_bl)) css_nil)
  (css_cons (cs_set (i := 6) c rfl (loc_by rfl) (fnT hf) (ce_call C_names_in hj_names_in c rfl (ca_cons (ce_var (i := 1) c rfl (vis_by rfl)) ca_nil)))
  (css_one (cs_ret (ce_and (ce_eq c (ce_lenSc (own := [("name", 9)]) c b_len (ci_any c (ce_var (i := 6) c rfl (vis_by rfl))) rfl rfl (fun _ cx hfcx => (cg_name (i := 9) cx rfl (loc_by rfl) (fnC hfcx (by first | exact .inr rfl | exact .inl rfl)))) (fun _ cx => cts_nil) (fun _ cx => (ce_var (i := 9) cx rfl (vis_by rfl))) (by decide)) (ce_len c b_len (ca_cons (ce_var (i := 6) c rfl (vis_by rfl)) ca_nil))) (ce_one (ce_call C_is_met hj_is_met c rfl (ca_cons (ce_var (i := 0) c rfl (vis_by rfl)) (ca_cons (ce_var (i := 1) c rfl (vis_by rfl)) ca_nil)))))))))))))
theorem C_fits_behind {G : Gd} {fd : FuncData} (k_FORMS : KTab G "FORMS" t_FORMS) (b_tuple : G.mg "tuple" = none) (b_isinstance : G.mg "isinstance" = none) (b_len : G.mg "len" = none) (b_str : G.mg "str" = none) (b_zip : G.mg "zip" = none) (b_all : G.mg "all" = none) (C_is_name : Cal G 1 "is_name" ["thing"] f_is_name) (C_is_thing : Cal G 2 "is_thing" ["known", "sign", "thing"] f_is_thing) (C_names_in : Cal G 1 "names_in" ["step"] f_names_in) (C_is_met : Cal G 2 "is_met" ["known", "step"] f_is_met) (F : FunD G.K "fits_behind" "fits_behind" (defArgs (top 20)) (defBody (top 20)) (defScope (top 20)) [] [] (He.ga G.K "fits_behind") fd) (g : G.mg "fits_behind" = some (.ref (He.ga G.K "fits_behind"))) : Cal G 3 "fits_behind" ["known", "thing"] f_fits_behind :=
  cal_D F sc_fits_behind g (fun _ _ _ _ _ _ us hl => match us, hl with | [_, _], _ => rfl) (w_fits_behind k_FORMS b_tuple b_isinstance b_len b_str b_zip b_all C_is_name C_is_thing C_names_in C_is_met)
/-! ### show_step -/
noncomputable def m_show_step : MS := (mRet (mMeth isStr fJoin (mC (.str " ")) (mCons (mLc (mIter (mVar 0)) (gN 1) mYes (mCB fStr (mCons (mVar 1) mNil)) [1]) mNil)))
noncomputable def f_show_step : MF := callD 2 m_show_step
theorem sc_show_step : FnScope ["step", "thing"] ["step"] (defScope (top 23)) := ⟨rfl, rfl, rfl, by decide +kernel, rfl, by decide +kernel, by decide +kernel⟩
theorem w_show_step {G : Gd} (b_str : G.mg "str" = none) (X : Cx) (E : XK) (c : Cq G 0 E ["step", "thing"] (defScope (top 23)) X) (hf : X.fn = fun _ => true) : PSs X (defBody (top 23)) (sD G.K E m_show_step) := by
  exact (css_one (cs_ret (ce_join c ce_str (ca_cons (ce_lc (own := [("thing", 1)]) c (ci_any c (ce_var (i := 0) c rfl (vis_by rfl))) rfl rfl (fun _ cx hfcx => (cg_name (i := 1) cx rfl (loc_by rfl) (fnC hfcx (by first | exact .inr rfl | exact .inl rfl)))) (fun _ cx => cts_nil) (fun _ cx => (ce_str1 cx b_str (ca_cons (ce_var (i := 1) cx rfl (vis_by rfl)) ca_nil))) (by decide)) ca_nil))))
theorem C_show_step {G : Gd} {fd : FuncData} (b_str : G.mg "str" = none) (F : FunD G.K "show_step" "show_step" (defArgs (top 23)) (defBody (top 23)) (defScope (top 23)) [] [] (He.ga G.K "show_step") fd) (g : G.mg "show_step" = some (.ref (He.ga G.K "show_step"))) : Cal G 1 "show_step" ["step"] f_show_step :=
  cal_D F sc_show_step g (fun _ _ _ _ _ _ us hl => match us, hl with | [_], _ => rfl) (w_show_step b_str)
/-! ### show_sketch -/
noncomputable def m_show_sketch : MS := (mRet (mMeth isStr fJoin (mC (.str "\n")) (mCons (mLc (mIter (mVar 0)) (gN 1) mYes (mCall 1 f_show_step (mCons (mVar 1) mNil)) [1]) mNil)))
noncomputable def f_show_sketch : MF := callD 2 m_show_sketch
theorem sc_show_sketch : FnScope ["sketch", "step"] ["sketch"] (defScope (top 24)) := ⟨rfl, rfl, rfl, by decide +kernel, rfl, by decide +kernel, by decide +kernel⟩
theorem w_show_sketch {G : Gd} (C_show_step : Cal G 1 "show_step" ["step"] f_show_step) (X : Cx) (E : XK) (c : Cq G 1 E ["sketch", "step"] (defScope (top 24)) X) (hf : X.fn = fun _ => true) : PSs X (defBody (top 24)) (sD G.K E m_show_sketch) := by
  have hj_show_step : 1 ≤ 1 := by decide
  exact (css_one (cs_ret (ce_join c ce_str (ca_cons (ce_lc (own := [("step", 1)]) c (ci_any c (ce_var (i := 0) c rfl (vis_by rfl))) rfl rfl (fun _ cx hfcx => (cg_name (i := 1) cx rfl (loc_by rfl) (fnC hfcx (by first | exact .inr rfl | exact .inl rfl)))) (fun _ cx => cts_nil) (fun _ cx => (ce_call C_show_step hj_show_step cx rfl (ca_cons (ce_var (i := 1) cx rfl (vis_by rfl)) ca_nil))) (by decide)) ca_nil))))
theorem C_show_sketch {G : Gd} {fd : FuncData} (C_show_step : Cal G 1 "show_step" ["step"] f_show_step) (F : FunD G.K "show_sketch" "show_sketch" (defArgs (top 24)) (defBody (top 24)) (defScope (top 24)) [] [] (He.ga G.K "show_sketch") fd) (g : G.mg "show_sketch" = some (.ref (He.ga G.K "show_sketch"))) : Cal G 2 "show_sketch" ["sketch"] f_show_sketch :=
  cal_D F sc_show_sketch g (fun _ _ _ _ _ _ us hl => match us, hl with | [_], _ => rfl) (w_show_sketch C_show_step)
theorem CW_show_sketch__sketch {G : Gd} {fd : FuncData} (C_show_step : Cal G 1 "show_step" ["step"] f_show_step) (F : FunD G.K "show_sketch" "show_sketch" (defArgs (top 24)) (defBody (top 24)) (defScope (top 24)) [] [] (He.ga G.K "show_sketch") fd) (g : G.mg "show_sketch" = some (.ref (He.ga G.K "show_sketch"))) : CalW G 2 "show_sketch" ["sketch"] ["sketch"] (permL [0]) (permL [0]) (permL [0]) f_show_sketch :=
  cal_P [0] F sc_show_sketch g rfl rfl (fun _ _ _ _ _ _ us hl => match us, hl with | [_], _ => rfl) (w_show_sketch C_show_step)
/-! ### thing_in -/
noncomputable def m_thing_in : MS := (mRet (mIf (mAndT (mTest (mBin opEq (mCB fLen (mCons (mVar 0) mNil)) (mC (.int 1)))) (mTest (mBin opIn (mVar 0) (mC (.str "0123456789"))))) (mCB fIntS (mCons (mVar 0) mNil)) (mVar 0)))
noncomputable def f_thing_in : MF := callD 1 m_thing_in
theorem sc_thing_in : FnScope ["word"] ["word"] (defScope (top 25)) := ⟨rfl, rfl, rfl, by decide +kernel, rfl, by decide +kernel, by decide +kernel⟩
theorem w_thing_in {G : Gd} (k_FIGURES : ∃ t, G.mg "FIGURES" = some (.str "0123456789" t)) (b_len : G.mg "len" = none) (b_int : G.mg "int" = none) (X : Cx) (E : XK) (c : Cq G 0 E ["word"] (defScope (top 25)) X) (hf : X.fn = fun _ => true) : PSs X (defBody (top 25)) (sD G.K E m_thing_in) := by
  exact (css_one (cs_ret (ce_if (cw_and (ct_eq c (ce_len c b_len (ca_cons (ce_var (i := 0) c rfl (vis_by rfl)) ca_nil)) ce_int) (cw_one_and (ct_in c (ce_var (i := 0) c rfl (vis_by rfl)) (ce_gstr c k_FIGURES rfl)))).pt (ce_intS c b_int (ca_cons (ce_var (i := 0) c rfl (vis_by rfl)) ca_nil)) (ce_var (i := 0) c rfl (vis_by rfl)))))
theorem C_thing_in {G : Gd} {fd : FuncData} (k_FIGURES : ∃ t, G.mg "FIGURES" = some (.str "0123456789" t)) (b_len : G.mg "len" = none) (b_int : G.mg "int" = none) (F : FunD G.K "thing_in" "thing_in" (defArgs (top 25)) (defBody (top 25)) (defScope (top 25)) [] [] (He.ga G.K "thing_in") fd) (g : G.mg "thing_in" = some (.ref (He.ga G.K "thing_in"))) : Cal G 1 "thing_in" ["word"] f_thing_in :=
  cal_D F sc_thing_in g (fun _ _ _ _ _ _ us hl => match us, hl with | [_], _ => rfl) (w_thing_in k_FIGURES b_len b_int)
/-! ### step_in -/
noncomputable def m_step_in : MS := (mRet (mCB fTuple (mCons (mLc (mIter (mMeth isStr fSplit (mVar 0) (mCons (mC (.str " ")) mNil))) (gN 1) mYes (mCall 1 f_thing_in (mCons (mVar 1) mNil)) [1]) mNil)))
noncomputable def f_step_in : MF := callD 2 m_step_in
theorem sc_step_in : FnScope ["line", "word"] ["line"] (defScope (top 26)) := ⟨rfl, rfl, rfl, by decide +kernel, rfl, by decide +kernel, by decide +kernel⟩
theorem w_step_in {G : Gd} (b_tuple : G.mg "tuple" = none) (C_thing_in : Cal G 1 "thing_in" ["word"] f_thing_in) (X : Cx) (E : XK) (c : Cq G 1 E ["line", "word"] (defScope (top 26)) X) (hf : X.fn = fun _ => true) : PSs X (defBody (top 26)) (sD G.K E m_step_in) := by
  have hj_thing_in : 1 ≤ 1 := by decide
  exact (css_one (cs_ret (ce_tuple c b_tuple (ca_cons (ce_lc (own := [("word", 1)]) c (ci_any c (ce_split c (ce_var (i := 0) c rfl (vis_by rfl)) (ca_cons ce_str ca_nil))) rfl rfl (fun _ cx hfcx => (cg_name (i := 1) cx rfl (loc_by rfl) (fnC hfcx (by first | exact .inr rfl | exact .inl rfl)))) (fun _ cx => cts_nil) (fun _ cx => (ce_call C_thing_in hj_thing_in cx rfl (ca_cons (ce_var (i := 1) cx rfl (vis_by rfl)) ca_nil))) (by decide)) ca_nil))))
theorem C_step_in {G : Gd} {fd : FuncData} (b_tuple : G.mg "tuple" = none) (C_thing_in : Cal G 1 "thing_in" ["word"] f_thing_in) (F : FunD G.K "step_in" "step_in" (defArgs (top 26)) (defBody (top 26)) (defScope (top 26)) [] [] (He.ga G.K "step_in") fd) (g : G.mg "step_in" = some (.ref (He.ga G.K "step_in"))) : Cal G 2 "step_in" ["line"] f_step_in :=
  cal_D F sc_step_in g (fun _ _ _ _ _ _ us hl => match us, hl with | [_], _ => rfl) (w_step_in b_tuple C_thing_in)
/-! ### read_sketch -/
noncomputable def m_read_sketch : MS := (mSeq (mIfS (mNotT (mTest (mCB fIsi (mCons (mVar 0) (mCons (mC (.ty "str")) mNil))))) mBadS mNext)
  (mSeq (mAsg (mDNew true) (gN 1))
  (mSeq (mAsg (mIf (mTest (mBin opNe (mVar 0) (mC (.str "")))) (mMeth isStr fSplit (mVar 0) (mCons (mC (.str "\n")) mNil)) (mLst mNil)) (gN 2))
  (mSeq (mFor (mEnum (mVar 2)) (gT [(gN 3), (gN 4)]) (mSeq (mAsg (mCall 1 f_step_in (mCons (mVar 4) mNil)) (gN 5))
  (mSeq (mIfS (mNotT (mTest (mCall 2 f_fits_behind (mCons (mVar 1) (mCons (mVar 5) mNil))))) mBadS mNext)
  (mSetItem (mVar 5) (mVar 1) (mBin opIx (mVar 5) (mC (.int 1)))))))
  (mRet (mCB fTuple (mCons (mVals 1 6) mNil)))))))
noncomputable def f_read_sketch : MF := callD 7 m_read_sketch
theorem sc_read_sketch : FnScope ["text", "known", "lines", "row", "line", "step", "name"] ["text"] (defScope (top 27)) := ⟨rfl, rfl, rfl, by decide +kernel, rfl, by decide +kernel, by decide +kernel⟩
theorem w_read_sketch {G : Gd} (b_str : G.mg "str" = none) (b_isinstance : G.mg "isinstance" = none) (b_enumerate : G.mg "enumerate" = none) (b_tuple : G.mg "tuple" = none) (C_step_in : Cal G 2 "step_in" ["line"] f_step_in) (C_fits_behind : Cal G 3 "fits_behind" ["known", "thing"] f_fits_behind) (X : Cx) (E : XK) (c : Cq G 3 E ["text", "known", "lines", "row", "line", "step", "name"] (defScope (top 27)) X) (hf : X.fn = fun _ => true) : PSs X (defBody (top 27)) (sD G.K E m_read_sketch) := by
  have hj_step_in : 2 ≤ 3 := by decide
  have hj_fits_behind : 3 ≤ 3 := by decide
  exact (css_cons (cs_if (ct_not (ct_val (ce_isi c b_isinstance (ca_cons (ce_var (i := 0) c rfl (vis_by rfl)) (ca_cons (ce_ty c b_str rfl (by decide +kernel)) ca_nil))))) (css_one cs_bad) css_nil)
  (css_cons (cs_set (i := 1) c rfl (loc_by rfl) (fnT hf) ce_dnew)
  (css_cons (cs_set (i := 2) c rfl (loc_by rfl) (fnT hf) (ce_if (ct_ne c (ce_var (i := 0) c rfl (vis_by rfl)) ce_str) (ce_split c (ce_var (i := 0) c rfl (vis_by rfl)) (ca_cons ce_str ca_nil)) (ce_lst ca_nil)))
  (css_cons (cs_for c (ci_enum c rfl b_enumerate (ce_var (i := 2) c rfl (vis_by rfl))) (cg_tup c (cgs_cons (cg_name (i := 3) c rfl (loc_by rfl) (fnT hf)) (cgs_cons (cg_name (i := 4) c rfl (loc_by rfl) (fnT hf)) cgs_nil))) (css_cons (cs_set (i := 5) c rfl (loc_by rfl) (fnT hf) (ce_call C_step_in hj_step_in c rfl (ca_cons (ce_var (i := 4) c rfl (vis_by rfl)) ca_nil)))
  (css_cons (cs_if (ct_not (ct_val (ce_call C_fits_behind hj_fits_behind c rfl (ca_cons (ce_var (i := 1) c rfl (vis_by rfl)) (ca_cons (ce_var (i := 5) c rfl (vis_by rfl)) ca_nil))))) (css_one cs_bad) css_nil)
  (css_one (cs_setItem c (ce_var (i := 5) c rfl (vis_by rfl)) (ce_var (i := 1) c rfl (vis_by rfl)) (ce_ix c (ce_var (i := 5) c rfl (vis_by rfl)) ce_int))))))
  (css_one (cs_ret (ce_tuple c b_tuple (ca_cons (ce_vals (i := 1) (j := 6) c rfl rfl (by decide) (vis_by rfl) rfl rfl (vis_by rfl) (vis_by rfl) (loc_by rfl) (by first | exact .inr rfl | exact .inl rfl)) ca_nil))))))))
theorem C_read_sketch {G : Gd} {fd : FuncData} (b_str : G.mg "str" = none) (b_isinstance : G.mg "isinstance" = none) (b_enumerate : G.mg "enumerate" = none) (b_tuple : G.mg "tuple" = none) (C_step_in : Cal G 2 "step_in" ["line"] f_step_in) (C_fits_behind : Cal G 3 "fits_behind" ["known", "thing"] f_fits_behind) (F : FunD G.K "read_sketch" "read_sketch" (defArgs (top 27)) (defBody (top 27)) (defScope (top 27)) [] [] (He.ga G.K "read_sketch") fd) (g : G.mg "read_sketch" = some (.ref (He.ga G.K "read_sketch"))) : Cal G 4 "read_sketch" ["text"] f_read_sketch :=
  cal_D F sc_read_sketch g (fun _ _ _ _ _ _ us hl => match us, hl with | [_], _ => rfl) (w_read_sketch b_str b_isinstance b_enumerate b_tuple C_step_in C_fits_behind)
theorem CW_read_sketch__text {G : Gd} {fd : FuncData} (b_str : G.mg "str" = none) (b_isinstance : G.mg "isinstance" = none) (b_enumerate : G.mg "enumerate" = none) (b_tuple : G.mg "tuple" = none) (C_step_in : Cal G 2 "step_in" ["line"] f_step_in) (C_fits_behind : Cal G 3 "fits_behind" ["known", "thing"] f_fits_behind) (F : FunD G.K "read_sketch" "read_sketch" (defArgs (top 27)) (defBody (top 27)) (defScope (top 27)) [] [] (He.ga G.K "read_sketch") fd) (g : G.mg "read_sketch" = some (.ref (He.ga G.K "read_sketch"))) : CalW G 4 "read_sketch" ["text"] ["text"] (permL [0]) (permL [0]) (permL [0]) f_read_sketch :=
  cal_P [0] F sc_read_sketch g rfl rfl (fun _ _ _ _ _ _ us hl => match us, hl with | [_], _ => rfl) (w_read_sketch b_str b_isinstance b_enumerate b_tuple C_step_in C_fits_behind)
/-! ### _law_deck -/
noncomputable def m__law_deck : MS := (mSeq (mAsg (mCB fList (mCons (mSl (mVar 0) mNoPart (mPart (mC (.int 63)))) mNil)) (gN 1))
  (mSeq (mAsg (mC (.int 69621)) (gN 2))
  (mSeq (mFor (mIter (mVar 1)) (gN 3) (mAsg (mBin opMod (mBin opAdd (mBin opAdd (mBin opMul (mVar 2) (mC (.int 39373))) (mBin opMod (mVar 3) (mC (.int 2147483587)))) (mC (.int 11))) (mC (.int 2147483629))) (gN 2)))
  (mRet (mLstC (mCons (mUn opRevC (mVar 1)) (mCons (mVar 2) (mCons (mC (.int 0)) mNil))))))))
noncomputable def f__law_deck : MF := callK 4 m__law_deck
theorem sc__law_deck : FnScope ["_law_script", "_law_cells", "_law_seed", "_law_cell"] ["_law_script"] (defScope (top 29)) := ⟨rfl, rfl, rfl, by decide +kernel, rfl, by decide +kernel, by decide +kernel⟩
theorem w__law_deck {G : Gd} (b_list : G.mg "list" = none) (X : Cx) (E : XK) (c : Cq G 0 E ["_law_script", "_law_cells", "_law_seed", "_law_cell"] (defScope (top 29)) X) (hf : X.fn = fun _ => true) : PSs X (defBody (top 29)) (sD G.K E m__law_deck) := by
  exact (css_cons (cs_set (i := 1) c rfl (loc_by rfl) (fnT hf) (ce_list c b_list (ca_cons (ce_sl c (ce_var (i := 0) c rfl (vis_by rfl)) co_none (co_some ce_int)) ca_nil)))
  (css_cons (cs_set (i := 2) c rfl (loc_by rfl) (fnT hf) ce_int)
  (css_cons (cs_for c (ci_any c (ce_var (i := 1) c rfl (vis_by rfl))) (cg_name (i := 3) c rfl (loc_by rfl) (fnT hf)) (css_one (cs_set (i := 2) c rfl (loc_by rfl) (fnT hf) (ce_mod c (ce_add c (ce_add c (ce_mul c (ce_var (i := 2) c rfl (vis_by rfl)) ce_int) (ce_mod c (ce_var (i := 3) c rfl (vis_by rfl)) ce_int)) ce_int) ce_int))))
  (css_one (cs_ret (ce_lstC (ca_cons (ce_revC c (ce_var (i := 1) c rfl (vis_by rfl))) (ca_cons (ce_var (i := 2) c rfl (vis_by rfl)) (ca_cons ce_int ca_nil)))))))))
theorem C__law_deck {G : Gd} {fd : FuncData} (b_list : G.mg "list" = none) (F : FunD G.K "_law_deck" "_law_deck" (defArgs (top 29)) (defBody (top 29)) (defScope (top 29)) [] [] (He.ga G.K "_law_deck") fd) (g : G.mg "_law_deck" = some (.ref (He.ga G.K "_law_deck"))) : Cal G 1 "_law_deck" ["_law_script"] f__law_deck :=
  cal_K F sc__law_deck g (fun _ _ _ _ _ _ us hl => match us, hl with | [_], _ => rfl) (w__law_deck b_list)
/-! ### _law_draw -/
noncomputable def m__law_draw : MS := (mSeq (mSetItem (mBin opAdd (mBin opIx (mVar 0) (mC (.int 2))) (mC (.int 1))) (mVar 0) (mC (.int 2)))
  (mSeq (mAsg (mBin opIx (mVar 0) (mC (.int 1))) (gN 2))
  (mSeq (mIfS (mTest (mBin opNe (mBin opIx (mVar 0) (mC (.int 0))) (mLst mNil))) (mSeq (mAsg (mMeth isLst fPop (mBin opIx (mVar 0) (mC (.int 0))) mNil) (gN 2))
  (mIfS (mTest (mBin opGe (mVar 2) (mBin opPow (mC (.int 10)) (mC (.int 18))))) (mSeq (mDrop (mMeth isLst fAppend (mBin opIx (mVar 0) (mC (.int 0))) (mCons (mBin opFdiv (mVar 2) (mVar 1)) mNil)))
  (mRet (mBin opMod (mVar 2) (mVar 1)))) mNext)) mNext)
  (mSeq (mAsg (mBin opAdd (mBin opAdd (mBin opMod (mVar 2) (mC (.int 2147483629))) (mBin opMul (mBin opMul (mC (.int 130363)) (mBin opIx (mVar 0) (mC (.int 2)))) (mBin opIx (mVar 0) (mC (.int 2))))) (mBin opIx (mVar 0) (mC (.int 1)))) (gN 3))
  (mSeq (mAsg (mBin opMod (mBin opAdd (mBin opMul (mVar 3) (mC (.int 48271))) (mBin opMul (mC (.int 40692)) (mBin opIx (mVar 0) (mC (.int 2))))) (mC (.int 2147483563))) (gN 3))
  (mSeq (mAsg (mBin opMod (mBin opAdd (mBin opMul (mVar 3) (mVar 3)) (mC (.int 31))) (mC (.int 2147483587))) (gN 3))
  (mRet (mBin opMod (mBin opFdiv (mBin opMod (mBin opMul (mVar 3) (mC (.int 16807))) (mC (.int 2147483647))) (mC (.int 64))) (mVar 1)))))))))
noncomputable def f__law_draw : MF := callD 4 m__law_draw
theorem sc__law_draw : FnScope ["_law_deck_here", "_law_most", "_law_cell", "_law_number"] ["_law_deck_here", "_law_most"] (defScope (top 30)) := ⟨rfl, rfl, rfl, by decide +kernel, rfl, by decide +kernel, by decide +kernel⟩
theorem w__law_draw {G : Gd} (X : Cx) (E : XK) (c : Cq G 0 E ["_law_deck_here", "_law_most", "_law_cell", "_law_number"] (defScope (top 30)) X) (hf : X.fn = fun _ => true) : PSs X (defBody (top 30)) (sD G.K E m__law_draw) := by
  exact (css_cons (cs_setItem c (ce_add c (ce_ix c (ce_var (i := 0) c rfl (vis_by rfl)) ce_int) ce_int) (ce_var (i := 0) c rfl (vis_by rfl)) ce_int)
  (css_cons (cs_set (i := 2) c rfl (loc_by rfl) (fnT hf) (ce_ix c (ce_var (i := 0) c rfl (vis_by rfl)) ce_int))
  (css_cons (cs_if (ct_ne c (ce_ix c (ce_var (i := 0) c rfl (vis_by rfl)) ce_int) (ce_lst ca_nil)) (css_cons (cs_set (i := 2) c rfl (loc_by rfl) (fnT hf) (ce_pop c (ce_ix c (ce_var (i := 0) c rfl (vis_by rfl)) ce_int)))
  (css_one (cs_if (ct_ge c (ce_var (i := 2) c rfl (vis_by rfl)) (ce_pow c ce_int ce_int)) (css_cons (cs_expr (ce_append c (ce_ix c (ce_var (i := 0) c rfl (vis_by rfl)) ce_int) (ca_cons (ce_fdiv c (ce_var (i := 2) c rfl (vis_by rfl)) (ce_var (i := 1) c rfl (vis_by rfl))) ca_nil)))
  (css_one (cs_ret (ce_mod c (ce_var (i := 2) c rfl (vis_by rfl)) (ce_var (i := 1) c rfl (vis_by rfl)))))) css_nil))) css_nil)
  (css_cons (cs_set (i := 3) c rfl (loc_by rfl) (fnT hf) (ce_add c (ce_add c (ce_mod c (ce_var (i := 2) c rfl (vis_by rfl)) ce_int) (ce_mul c (ce_mul c ce_int (ce_ix c (ce_var (i := 0) c rfl (vis_by rfl)) ce_int)) (ce_ix c (ce_var (i := 0) c rfl (vis_by rfl)) ce_int))) (ce_ix c (ce_var (i := 0) c rfl (vis_by rfl)) ce_int)))
  (css_cons (cs_set (i := 3) c rfl (loc_by rfl) (fnT hf) (ce_mod c (ce_add c (ce_mul c (ce_var (i := 3) c rfl (vis_by rfl)) ce_int) (ce_mul c ce_int (ce_ix c (ce_var (i := 0) c rfl (vis_by rfl)) ce_int))) ce_int))
  (css_cons (cs_set (i := 3) c rfl (loc_by rfl) (fnT hf) (ce_mod c (ce_add c (ce_mul c (ce_var (i := 3) c rfl (vis_by rfl)) (ce_var (i := 3) c rfl (vis_by rfl))) ce_int) ce_int))
  (css_one (cs_ret (ce_mod c (ce_fdiv c (ce_mod c (ce_mul c (ce_var (i := 3) c rfl (vis_by rfl)) ce_int) ce_int) ce_int) (ce_var (i := 1) c rfl (vis_by rfl)))))))))))
theorem C__law_draw {G : Gd} {fd : FuncData} (F : FunD G.K "_law_draw" "_law_draw" (defArgs (top 30)) (defBody (top 30)) (defScope (top 30)) [] [] (He.ga G.K "_law_draw") fd) (g : G.mg "_law_draw" = some (.ref (He.ga G.K "_law_draw"))) : Cal G 1 "_law_draw" ["_law_deck_here", "_law_most"] f__law_draw :=
  cal_D F sc__law_draw g (fun _ _ _ _ _ _ us hl => match us, hl with | [_, _], _ => rfl) (w__law_draw)
/-! ### _law_pick -/
noncomputable def m__law_pick : MS := (mRet (mBin opIx (mVar 1) (mCall 2 f__law_draw (mCons (mVar 0) (mCons (mCB fLen (mCons (mVar 1) mNil)) mNil)))))
noncomputable def f__law_pick : MF := callD 2 m__law_pick
theorem sc__law_pick : FnScope ["_law_deck_here", "_law_some"] ["_law_deck_here", "_law_some"] (defScope (top 31)) := ⟨rfl, rfl, rfl, by decide +kernel, rfl, by decide +kernel, by decide +kernel⟩
theorem w__law_pick {G : Gd} (b_len : G.mg "len" = none) (C__law_draw : Cal G 1 "_law_draw" ["_law_deck_here", "_law_most"] f__law_draw) (X : Cx) (E : XK) (c : Cq G 1 E ["_law_deck_here", "_law_some"] (defScope (top 31)) X) (hf : X.fn = fun _ => true) : PSs X (defBody (top 31)) (sD G.K E m__law_pick) := by
  have hj__law_draw : 1 ≤ 1 := by decide
  exact (css_one (cs_ret (ce_ix c (ce_var (i := 1) c rfl (vis_by rfl)) (ce_call C__law_draw hj__law_draw c rfl (ca_cons (ce_var (i := 0) c rfl (vis_by rfl)) (ca_cons (ce_len c b_len (ca_cons (ce_var (i := 1) c rfl (vis_by rfl)) ca_nil)) ca_nil))))))
theorem C__law_pick {G : Gd} {fd : FuncData} (b_len : G.mg "len" = none) (C__law_draw : Cal G 1 "_law_draw" ["_law_deck_here", "_law_most"] f__law_draw) (F : FunD G.K "_law_pick" "_law_pick" (defArgs (top 31)) (defBody (top 31)) (defScope (top 31)) [] [] (He.ga G.K "_law_pick") fd) (g : G.mg "_law_pick" = some (.ref (He.ga G.K "_law_pick"))) : Cal G 2 "_law_pick" ["_law_deck_here", "_law_some"] f__law_pick :=
  cal_D F sc__law_pick g (fun _ _ _ _ _ _ us hl => match us, hl with | [_, _], _ => rfl) (w__law_pick b_len C__law_draw)
/-! ### _law_names -/
noncomputable def m__law_names : MS := (mSeq (mAsg (mC (.str "abcdefghijklmnopqrstuvwxyz")) (gN 1))
  (mSeq (mAsg (mCall 2 f__law_draw (mCons (mVar 0) (mCons (mC (.int 4)) mNil))) (gN 2))
  (mSeq (mAsg (mCall 2 f__law_draw (mCons (mVar 0) (mCons (mC (.int 8)) mNil))) (gN 3))
  (mSeq (mAsg (mMeth isStr fJoin (mC (.str "")) (mCons (mLc (mRng rng1 (mCons (mC (.int 8)) mNil)) (gN 6) mYes (mBin opIx (mVar 1) (mCall 2 f__law_draw (mCons (mVar 0) (mCons (mC (.int 26)) mNil)))) [6]) mNil)) (gN 4))
  (mSeq (mIfS (mTest (mBin opEq (mVar 2) (mC (.int 0)))) (mRet (mLc (mRng rng1 (mCons (mC (.int 16)) mNil)) (gN 6) mYes (mBin opIx (mVar 1) (mBin opMod (mBin opAdd (mVar 3) (mBin opMul (mC (.int 5)) (mVar 6))) (mC (.int 26)))) [6])) mNext)
  (mSeq (mIfS (mTest (mBin opEq (mVar 2) (mC (.int 1)))) (mSeq (mAsg (mLst (mCons (mC (.str "line")) (mCons (mC (.str "free")) (mCons (mC (.str "at")) (mCons (mC (.str "row")) (mCons (mC (.str "on")) (mCons (mC (.str "circle")) (mCons (mC (.str "meet")) (mCons (mC (.str "same")) (mCons (mC (.str "holds")) (mCons (mC (.str "a")) (mCons (mC (.str "none")) (mCons (mC (.str "ring")) mNil))))))))))))) (gN 8))
  (mRet (mBin opAdd (mBin opAdd (mSl (mVar 8) (mPart (mVar 3)) mNoPart) (mSl (mVar 8) mNoPart (mPart (mVar 3)))) (mLst (mCons (mC (.str "foot")) (mCons (mC (.str "p")) (mCons (mC (.str "turn")) (mCons (mC (.str "cross")) mNil)))))))) mNext)
  (mSeq (mAsg (mLstC mNil) (gN 5))
  (mSeq (mFor (mRng rng1 (mCons (mC (.int 16)) mNil)) (gN 6) (mIfS (mTest (mBin opEq (mVar 2) (mC (.int 2)))) (mDrop (mMeth isLst fAppend (mVar 5) (mCons (mBin opIx (mLst (mCons (mSl (mVar 4) mNoPart (mPart (mBin opAdd (mC (.int 1)) (mBin opMod (mVar 6) (mC (.int 8)))))) (mCons (mBin opAdd (mC (.str "z")) (mSl (mVar 4) mNoPart (mPart (mBin opMod (mVar 6) (mC (.int 8)))))) mNil))) (mBin opFdiv (mVar 6) (mC (.int 8)))) mNil))) (mSeq (mAsg (mBin opIx (mVar 1) (mBin opMod (mBin opAdd (mMeth isStr fIndex (mVar 1) (mCons (mBin opIx (mVar 4) (mVar 3)) mNil)) (mVar 6)) (mC (.int 26)))) (gN 9))
  (mDrop (mMeth isLst fAppend (mVar 5) (mCons (mBin opAdd (mBin opAdd (mSl (mVar 4) mNoPart (mPart (mVar 3))) (mVar 9)) (mSl (mVar 4) (mPart (mBin opAdd (mVar 3) (mC (.int 1)))) mNoPart)) mNil))))))
  (mSeq (mAsg (mLc (mEnum (mVar 5)) (gT [(gN 6), (gN 10)]) (mTest (mBin opNotIn (mVar 10) (mSl (mVar 5) mNoPart (mPart (mVar 6))))) (mVar 10) [6, 10]) (gN 5))
  (mSeq (mAsg (mLst (mCons (mC (.str "qa")) (mCons (mC (.str "qb")) (mCons (mC (.str "qc")) (mCons (mC (.str "qd")) (mCons (mC (.str "qe")) (mCons (mC (.str "qf")) (mCons (mC (.str "qg")) (mCons (mC (.str "qh")) (mCons (mC (.str "qi")) (mCons (mC (.str "qj")) (mCons (mC (.str "qk")) (mCons (mC (.str "ql")) (mCons (mC (.str "qm")) (mCons (mC (.str "qn")) (mCons (mC (.str "qo")) (mCons (mC (.str "qp")) mNil))))))))))))))))) (gN 7))
  (mRet (mSl (mBin opAdd (mVar 5) (mLc (mIter (mVar 7)) (gN 10) (mTest (mBin opNotIn (mVar 10) (mVar 5))) (mVar 10) [10])) mNoPart (mPart (mC (.int 16)))))))))))))))
noncomputable def f__law_names : MF := callD 11 m__law_names
theorem sc__law_names : FnScope ["_law_deck_here", "_law_letters", "_law_way", "_law_at", "_law_word", "_law_found", "_law_k", "_law_more", "_law_some", "_law_letter", "_law_name"] ["_law_deck_here"] (defScope (top 32)) := ⟨rfl, rfl, rfl, by decide +kernel, rfl, by decide +kernel, by decide +kernel⟩
theorem w__law_names {G : Gd} (b_range : G.mg "range" = none) (b_enumerate : G.mg "enumerate" = none) (C__law_draw : Cal G 1 "_law_draw" ["_law_deck_here", "_law_most"] f__law_draw) (X : Cx) (E : XK) (c : Cq G 1 E ["_law_deck_here", "_law_letters", "_law_way", "_law_at", "_law_word", "_law_found", "_law_k", "_law_more", "_law_some", "_law_letter", "_law_name"] (defScope (top 32)) X) (hf : X.fn = fun _ => true) : PSs X (defBody (top 32)) (sD G.K E m__law_names) := by
  have hj__law_draw : 1 ≤ 1 := by decide
  exact (css_cons (cs_set (i := 1) c rfl (loc_by rfl) (fnT hf) ce_str)
  (css_cons (cs_set (i := 2) c rfl (loc_by rfl) (fnT hf) (ce_call C__law_draw hj__law_draw c rfl (ca_cons (ce_var (i := 0) c rfl (vis_by rfl)) (ca_cons ce_int ca_nil))))
  (css_cons (cs_set (i := 3) c rfl (loc_by rfl) (fnT hf) (ce_call C__law_draw hj__law_draw c rfl (ca_cons (ce_var (i := 0) c rfl (vis_by rfl)) (ca_cons ce_int ca_nil))))
  (css_cons (cs_set (i := 4) c rfl (loc_by rfl) (fnT hf) (ce_join c ce_str (ca_cons (ce_lc (own := [("_law_k", 6)]) c (ci_range1 c rfl b_range (ca_cons ce_int ca_nil)) rfl rfl (fun _ cx hfcx => (cg_name (i := 6) cx rfl (loc_by rfl) (fnC hfcx (by first | exact .inr rfl | exact .inl rfl)))) (fun _ cx => cts_nil) (fun _ cx => (ce_ix cx (ce_var (i := 1) cx rfl (vis_by rfl)) (ce_call C__law_draw hj__law_draw cx rfl (ca_cons (ce_var (i := 0) cx rfl (vis_by rfl)) (ca_cons ce_int ca_nil))))) (by decide)) ca_nil)))
  (css_cons (cs_if (ct_eq c (ce_var (i := 2) c rfl (vis_by rfl)) ce_int) (css_one (cs_ret (ce_lc (own := [("_law_k", 6)]) c (ci_range1 c rfl b_range (ca_cons ce_int ca_nil)) rfl rfl (fun _ cx hfcx => (cg_name (i := 6) cx rfl (loc_by rfl) (fnC hfcx (by first | exact .inr rfl | exact .inl rfl)))) (fun _ cx => cts_nil) (fun _ cx => (ce_ix cx (ce_var (i := 1) cx rfl (vis_by rfl)) (ce_mod cx (ce_add cx (ce_var (i := 3) cx rfl (vis_by rfl)) (ce_mul cx ce_int (ce_var (i := 6) cx rfl (vis_by rfl)))) ce_int))) (by decide)))) css_nil)
  (css_cons (cs_if (ct_eq c (ce_var (i := 2) c rfl (vis_by rfl)) ce_int) (css_cons (cs_set (i := 8) c rfl (loc_by rfl) (fnT hf) (ce_lst (ca_cons ce_str (ca_cons ce_str (ca_cons ce_str (ca_cons ce_str (ca_cons ce_str (ca_cons ce_str (ca_cons ce_str (ca_cons ce_str (ca_cons ce_str (ca_cons ce_str (ca_cons ce_str (ca_cons ce_str ca_nil))))))))))))))
  (css_one (cs_ret (ce_add c (ce_add c (ce_sl c (ce_var (i := 8) c rfl (vis_by rfl)) (co_some (ce_var (i := 3) c rfl (vis_by rfl))) co_none) (ce_sl c (ce_var (i := 8) c rfl (vis_by rfl)) co_none (co_some (ce_var (i := 3) c rfl (vis_by rfl))))) (ce_lst (ca_cons ce_str (ca_cons ce_str (ca_cons ce_str (ca_cons ce_str ca_nil))))))))) css_nil)
  (css_cons (cs_set (i := 5) c rfl (loc_by rfl) (fnT hf) (ce_lstC ca_nil))
  (css_cons (cs_for c (ci_range1 c rfl b_range (ca_cons ce_int ca_nil)) (cg_name (i := 6) c rfl (loc_by rfl) (fnT hf)) (css_one (cs_if (ct_eq c (ce_var (i := 2) c rfl (vis_by rfl)) ce_int) (css_one (cs_expr (ce_append c (ce_var (i := 5) c rfl (vis_by rfl)) (ca_cons (ce_ix c (ce_lst (ca_cons (ce_sl c (ce_var (i := 4) c rfl (vis_by rfl)) co_none (co_some (ce_add c ce_int (ce_mod c (ce_var (i := 6) c rfl (vis_by rfl)) ce_int)))) (ca_cons (ce_add c ce_str (ce_sl c (ce_var (i := 4) c rfl (vis_by rfl)) co_none (co_some (ce_mod c (ce_var (i := 6) c rfl (vis_by rfl)) ce_int)))) ca_nil))) (ce_fdiv c (ce_var (i := 6) c rfl (vis_by rfl)) ce_int)) ca_nil)))) (css_cons (cs_set (i := 9) c rfl (loc_by rfl) (fnT hf) (ce_ix c (ce_var (i := 1) c rfl (vis_by rfl)) (ce_mod c (ce_add c (ce_index c (ce_var (i := 1) c rfl (vis_by rfl)) (ca_cons (ce_ix c (ce_var (i := 4) c rfl (vis_by rfl)) (ce_var (i := 3) c rfl (vis_by rfl))) ca_nil)) (ce_var (i := 6) c rfl (vis_by rfl))) ce_int)))
  (css_one (cs_expr (ce_append c (ce_var (i := 5) c rfl (vis_by rfl)) (ca_cons (ce_add c (ce_add c (ce_sl c (ce_var (i := 4) c rfl (vis_by rfl)) co_none (co_some (ce_var (i := 3) c rfl (vis_by rfl)))) (ce_var (i := 9) c rfl (vis_by rfl))) (ce_sl c (ce_var (i := 4) c rfl (vis_by rfl)) (co_some (ce_add c (ce_var (i := 3) c rfl (vis_by rfl)) ce_int)) co_none)) ca_nil))))))))
  (css_cons (cs_cellL (i := 5) c hf rfl rfl (ce_lc (own := [("_law_k", 6), ("_law_name", 10)]) c (ci_enum c rfl b_enumerate (ce_var (i := 5) c rfl (vis_by rfl))) rfl rfl (fun _ cx hfcx => (cg_tup cx (cgs_cons (cg_name (i := 6) cx rfl (loc_by rfl) (fnC hfcx (by first | exact .inr rfl | exact .inl rfl))) (cgs_cons (cg_name (i := 10) cx rfl (loc_by rfl) (fnC hfcx (by first | exact .inr rfl | exact .inl rfl))) cgs_nil)))) (fun _ cx => (cts_one (ct_notIn cx (ce_var (i := 10) cx rfl (vis_by rfl)) (ce_sl cx (ce_var (i := 5) cx rfl (vis_by rfl)) co_none (co_some (ce_var (i := 6) cx rfl (vis_by rfl))))))) (fun _ cx => (ce_var (i := 10) cx rfl (vis_by rfl))) (by decide)))
  (css_cons (cs_set (i := 7) c rfl (loc_by rfl) (fnT hf) (ce_lst (ca_cons ce_str (ca_cons ce_str (ca_cons ce_str (ca_cons ce_str (ca_cons ce_str (ca_cons ce_str (ca_cons ce_str (ca_cons ce_str (ca_cons ce_str (ca_cons ce_str (ca_cons ce_str (ca_cons ce_str (ca_cons ce_str (ca_cons ce_str (ca_cons ce_str (ca_cons ce_str ca_nil))))))))))))))))))
  (css_one (cs_ret (ce_sl c (ce_add c (ce_var (i := 5) c rfl (vis_by rfl)) (ce_lc (own := [("_law_name", 10)]) c (ci_any c (ce_var (i := 7) c rfl (vis_by rfl))) rfl rfl (fun _ cx hfcx => (cg_name (i := 10) cx rfl (loc_by rfl) (fnC hfcx (by first | exact .inr rfl | exact .inl rfl)))) (fun _ cx => (cts_one (ct_notIn cx (ce_var (i := 10) cx rfl (vis_by rfl)) (ce_var (i := 5) cx rfl (vis_by rfl))))) (fun _ cx => (ce_var (i := 10) cx rfl (vis_by rfl))) (by decide))) co_none (co_some ce_int))))))))))))))
theorem C__law_names {G : Gd} {fd : FuncData} (b_range : G.mg "range" = none) (b_enumerate : G.mg "enumerate" = none) (C__law_draw : Cal G 1 "_law_draw" ["_law_deck_here", "_law_most"] f__law_draw) (F : FunD G.K "_law_names" "_law_names" (defArgs (top 32)) (defBody (top 32)) (defScope (top 32)) [] [] (He.ga G.K "_law_names") fd) (g : G.mg "_law_names" = some (.ref (He.ga G.K "_law_names"))) : Cal G 2 "_law_names" ["_law_deck_here"] f__law_names :=
  cal_D F sc__law_names g (fun _ _ _ _ _ _ us hl => match us, hl with | [_], _ => rfl) (w__law_names b_range b_enumerate C__law_draw)
/-! ### _law_forms -/
noncomputable def m__law_forms : MS := (mSeq (mAsg (mDisp true [((mC (.str "free")), (mC (.str ""))), ((mC (.str "on")), (mC (.str "L"))), ((mC (.str "round")), (mC (.str "C"))), ((mC (.str "meet")), (mC (.str "LL"))), ((mC (.str "middle")), (mC (.str "PP"))), ((mC (.str "foot")), (mC (.str "PL"))), ((mC (.str "mirror")), (mC (.str "PL")))]) (gN 0))
  (mSeq (mDrop (mMeth isDic fUpdate (mVar 0) (mCons (mDisp false [((mC (.str "turn")), (mC (.str "PPn"))), ((mC (.str "other")), (mC (.str "LCP"))), ((mC (.str "cross")), (mC (.str "LCk"))), ((mC (.str "line")), (mC (.str "PP"))), ((mC (.str "along")), (mC (.str "PL")))]) mNil)))
  (mSeq (mDrop (mMeth isDic fUpdate (mVar 0) (mCons (mDisp false [((mC (.str "upright")), (mC (.str "PL"))), ((mC (.str "circle")), (mC (.str "PP")))]) mNil)))
  (mRet (mVar 0)))))
noncomputable def f__law_forms : MF := callD 1 m__law_forms
theorem sc__law_forms : FnScope ["_law_found"] [] (defScope (top 33)) := ⟨rfl, rfl, rfl, by decide +kernel, rfl, by decide +kernel, by decide +kernel⟩
theorem w__law_forms {G : Gd} (X : Cx) (E : XK) (c : Cq G 0 E ["_law_found"] (defScope (top 33)) X) (hf : X.fn = fun _ => true) : PSs X (defBody (top 33)) (sD G.K E m__law_forms) := by
  exact (css_cons (cs_set (i := 0) c rfl (loc_by rfl) (fnT hf) (ce_disp (cps_cons ce_str ce_str (cps_cons ce_str ce_str (cps_cons ce_str ce_str (cps_cons ce_str ce_str (cps_cons ce_str ce_str (cps_cons ce_str ce_str (cps_cons ce_str ce_str cps_nil)))))))))
  (css_cons (cs_expr (ce_update c (ce_var (i := 0) c rfl (vis_by rfl)) (ca_cons (ce_disp (cps_cons ce_str ce_str (cps_cons ce_str ce_str (cps_cons ce_str ce_str (cps_cons ce_str ce_str (cps_cons ce_str ce_str cps_nil)))))) ca_nil)))
  (css_cons (cs_expr (ce_update c (ce_var (i := 0) c rfl (vis_by rfl)) (ca_cons (ce_disp (cps_cons ce_str ce_str (cps_cons ce_str ce_str cps_nil))) ca_nil)))
  (css_one (cs_ret (ce_var (i := 0) c rfl (vis_by rfl)))))))
theorem C__law_forms {G : Gd} {fd : FuncData} (F : FunD G.K "_law_forms" "_law_forms" (defArgs (top 33)) (defBody (top 33)) (defScope (top 33)) [] [] (He.ga G.K "_law_forms") fd) (g : G.mg "_law_forms" = some (.ref (He.ga G.K "_law_forms"))) : Cal G 1 "_law_forms" [] f__law_forms :=
  cal_D F sc__law_forms g (fun _ _ _ _ _ _ us hl => match us, hl with | [], _ => rfl) (w__law_forms)
/-! ### _law_sort -/
noncomputable def m__law_sort : MS := (mSeq (mIfS (mTest (mBin opEq (mVar 0) (mC (.str "circle")))) (mRet (mC (.str "C"))) mNext)
  (mRet (mIf (mTest (mBin opIn (mVar 0) (mTup (mCons (mC (.str "line")) (mCons (mC (.str "along")) (mCons (mC (.str "upright")) mNil)))))) (mC (.str "L")) (mC (.str "P")))))
noncomputable def f__law_sort : MF := callD 1 m__law_sort
theorem sc__law_sort : FnScope ["_law_word"] ["_law_word"] (defScope (top 34)) := ⟨rfl, rfl, rfl, by decide +kernel, rfl, by decide +kernel, by decide +kernel⟩
theorem w__law_sort {G : Gd} (X : Cx) (E : XK) (c : Cq G 0 E ["_law_word"] (defScope (top 34)) X) (hf : X.fn = fun _ => true) : PSs X (defBody (top 34)) (sD G.K E m__law_sort) := by
  exact (css_cons (cs_if (ct_eq c (ce_var (i := 0) c rfl (vis_by rfl)) ce_str) (css_one (cs_ret ce_str)) css_nil)
  (css_one (cs_ret (ce_if (ct_in c (ce_var (i := 0) c rfl (vis_by rfl)) (ce_tup (ca_cons ce_str (ca_cons ce_str (ca_cons ce_str ca_nil))))) ce_str ce_str))))
theorem C__law_sort {G : Gd} {fd : FuncData} (F : FunD G.K "_law_sort" "_law_sort" (defArgs (top 34)) (defBody (top 34)) (defScope (top 34)) [] [] (He.ga G.K "_law_sort") fd) (g : G.mg "_law_sort" = some (.ref (He.ga G.K "_law_sort"))) : Cal G 1 "_law_sort" ["_law_word"] f__law_sort :=
  cal_D F sc__law_sort g (fun _ _ _ _ _ _ us hl => match us, hl with | [_], _ => rfl) (w__law_sort)
/-! ### _law_others -/
noncomputable def m__law_others : MS := (mSeq (mAsg (mLstC mNil) (gN 1))
  (mSeq (mFor (mIter (mVar 0)) (gN 2) (mIfS (mTest (mBin opEq (mBin opIx (mVar 2) (mC (.int 0))) (mC (.str "circle")))) (mFor (mIter (mVar 0)) (gN 3) (mSeq (mAsg (mGet (mDisp false [((mC (.str "line")), (mSl (mVar 3) (mPart (mC (.int 2))) mNoPart)), ((mC (.str "along")), (mSl (mVar 3) (mPart (mC (.int 2))) (mPart (mC (.int 3))))), ((mC (.str "upright")), (mSl (mVar 3) (mPart (mC (.int 2))) (mPart (mC (.int 3)))))]) (mBin opIx (mVar 3) (mC (.int 0))) (mTup mNil)) (gN 4))
  (mIfS (mTest (mBin opIn (mBin opIx (mVar 2) (mC (.int 3))) (mVar 4))) (mDrop (mMeth isLst fAppend (mVar 1) (mCons (mTup (mCons (mBin opIx (mVar 3) (mC (.int 1))) (mCons (mBin opIx (mVar 2) (mC (.int 1))) (mCons (mBin opIx (mVar 2) (mC (.int 3))) mNil)))) mNil))) mNext))) mNext))
  (mRet (mVar 1))))
noncomputable def f__law_others : MF := callD 5 m__law_others
theorem sc__law_others : FnScope ["_law_steps", "_law_found", "_law_circle", "_law_line", "_law_through"] ["_law_steps"] (defScope (top 35)) := ⟨rfl, rfl, rfl, by decide +kernel, rfl, by decide +kernel, by decide +kernel⟩
theorem w__law_others {G : Gd} (X : Cx) (E : XK) (c : Cq G 0 E ["_law_steps", "_law_found", "_law_circle", "_law_line", "_law_through"] (defScope (top 35)) X) (hf : X.fn = fun _ => true) : PSs X (defBody (top 35)) (sD G.K E m__law_others) := by
  exact (css_cons (cs_set (i := 1) c rfl (loc_by rfl) (fnT hf) (ce_lstC ca_nil))
  (css_cons (cs_for c (ci_any c (ce_var (i := 0) c rfl (vis_by rfl))) (cg_name (i := 2) c rfl (loc_by rfl) (fnT hf)) (css_one (cs_if (ct_eq c (ce_ix c (ce_var (i := 2) c rfl (vis_by rfl)) ce_int) ce_str) (css_one (cs_for c (ci_any c (ce_var (i := 0) c rfl (vis_by rfl))) (cg_name (i := 3) c rfl (loc_by rfl) (fnT hf)) (css_cons (cs_set (i := 4) c rfl (loc_by rfl) (fnT hf) (ce_get c (ce_disp (cps_cons ce_str (ce_sl c (ce_var (i := 3) c rfl (vis_by rfl)) (co_some ce_int) co_none) (cps_cons ce_str (ce_sl c (ce_var (i := 3) c rfl (vis_by rfl)) (co_some ce_int) (co_some ce_int)) (cps_cons ce_str (ce_sl c (ce_var (i := 3) c rfl (vis_by rfl)) (co_some ce_int) (co_some ce_int)) cps_nil)))) (ce_ix c (ce_var (i := 3) c rfl (vis_by rfl)) ce_int) (ce_tup ca_nil) ⟨rfl, rfl, rfl, rfl⟩))
  (css_one (cs_if (ct_in c (ce_ix c (ce_var (i := 2) c rfl (vis_by rfl)) ce_int) (ce_var (i := 4) c rfl (vis_by rfl))) (css_one (cs_expr (ce_append c (ce_var (i := 1) c rfl (vis_by rfl)) (ca_cons (ce_tup (ca_cons (ce_ix c (ce_var (i := 3) c rfl (vis_by rfl)) ce_int) (ca_cons (ce_ix c (ce_var (i := 2) c rfl (vis_by rfl)) ce_int) (ca_cons (ce_ix c (ce_var (i := 2) c rfl (vis_by rfl)) ce_int) ca_nil)))) ca_nil)))) css_nil))))) css_nil)))
  (css_one (cs_ret (ce_var (i := 1) c rfl (vis_by rfl))))))
theorem C__law_others {G : Gd} {fd : FuncData} (F : FunD G.K "_law_others" "_law_others" (defArgs (top 35)) (defBody (top 35)) (defScope (top 35)) [] [] (He.ga G.K "_law_others") fd) (g : G.mg "_law_others" = some (.ref (He.ga G.K "_law_others"))) : Cal G 1 "_law_others" ["_law_steps"] f__law_others :=
  cal_D F sc__law_others g (fun _ _ _ _ _ _ us hl => match us, hl with | [_], _ => rfl) (w__law_others)
/-! ### _law_next -/
noncomputable def m__law_next : MS := (mSeq (mAsg (mCall 2 f__law_pick (mCons (mVar 0) (mCons (mVar 3) mNil))) (gN 4))
  (mSeq (mAsg (mCall 2 f__law_draw (mCons (mVar 0) (mCons (mC (.int 6)) mNil))) (gN 5))
  (mSeq (mAsg (mDisp false [((mC (.str "P")), (mLstC mNil)), ((mC (.str "L")), (mLstC mNil)), ((mC (.str "C")), (mLstC mNil))]) (gN 6))
  (mSeq (mFor (mIter (mVar 1)) (gN 7) (mDrop (mMeth isLst fAppend (mBin opIx (mVar 6) (mCall 1 f__law_sort (mCons (mBin opIx (mVar 7) (mC (.int 0))) mNil))) (mCons (mBin opIx (mVar 7) (mC (.int 1))) mNil))))
  (mSeq (mIfS (mTest (mBin opEq (mVar 4) (mC (.str "other")))) (mSeq (mAsg (mCall 1 f__law_others (mCons (mVar 1) mNil)) (gN 10))
  (mRet (mIf (mTest (mBin opNe (mVar 10) (mLst mNil))) (mBin opAdd (mTup (mCons (mC (.str "other")) (mCons (mVar 2) mNil))) (mBin opIx (mVar 10) (mBin opMod (mVar 5) (mCB fLen (mCons (mVar 10) mNil))))) (mTup (mCons (mC (.str "free")) (mCons (mVar 2) mNil)))))) mNext)
  (mSeq (mAsg (mTup (mCons (mVar 4) (mCons (mVar 2) mNil))) (gN 8))
  (mSeq (mFor (mIter (mBin opIx (mCall 0 f__law_forms mNil) (mVar 4))) (gN 9) (mIfS (mTest (mBin opEq (mVar 9) (mC (.str "n")))) (mAsg (mBin opAdd (mVar 8) (mTup (mCons (mBin opAdd (mC (.int 1)) (mBin opMod (mVar 5) (mC (.int 3)))) mNil))) (gN 8)) (mIfS (mTest (mBin opEq (mVar 9) (mC (.str "k")))) (mAsg (mBin opAdd (mVar 8) (mTup (mCons (mBin opMod (mVar 5) (mC (.int 2))) mNil))) (gN 8)) (mIfS (mTest (mBin opEq (mBin opIx (mVar 6) (mVar 9)) (mLst mNil))) (mRet (mTup (mCons (mC (.str "free")) (mCons (mVar 2) mNil)))) (mAsg (mBin opAdd (mVar 8) (mTup (mCons (mMeth isLst fPopAt (mBin opIx (mVar 6) (mVar 9)) (mCons (mCall 2 f__law_draw (mCons (mVar 0) (mCons (mCB fLen (mCons (mBin opIx (mVar 6) (mVar 9)) mNil)) mNil))) mNil)) mNil))) (gN 8))))))
  (mRet (mVar 8)))))))))
noncomputable def f__law_next : MF := callD 11 m__law_next
theorem sc__law_next : FnScope ["_law_deck_here", "_law_steps", "_law_name", "_law_words_here", "_law_word", "_law_spare", "_law_left", "_law_step", "_law_found", "_law_sign", "_law_some"] ["_law_deck_here", "_law_steps", "_law_name", "_law_words_here"] (defScope (top 36)) := ⟨rfl, rfl, rfl, by decide +kernel, rfl, by decide +kernel, by decide +kernel⟩
theorem w__law_next {G : Gd} (b_len : G.mg "len" = none) (C__law_pick : Cal G 2 "_law_pick" ["_law_deck_here", "_law_some"] f__law_pick) (C__law_draw : Cal G 1 "_law_draw" ["_law_deck_here", "_law_most"] f__law_draw) (C__law_sort : Cal G 1 "_law_sort" ["_law_word"] f__law_sort) (C__law_others : Cal G 1 "_law_others" ["_law_steps"] f__law_others) (C__law_forms : Cal G 1 "_law_forms" [] f__law_forms) (X : Cx) (E : XK) (c : Cq G 2 E ["_law_deck_here", "_law_steps", "_law_name", "_law_words_here", "_law_word", "_law_spare", "_law_left", "_law_step", "_law_found", "_law_sign", "_law_some"] (defScope (top 36)) X) (hf : X.fn = fun _ => true) : PSs X (defBody (top 36)) (sD G.K E m__law_next) := by
  have hj__law_pick : 2 ≤ 2 := by decide
  have hj__law_draw : 1 ≤ 2 := by decide
  have hj__law_sort : 1 ≤ 2 := by decide
  have hj__law_others : 1 ≤ 2 := by decide
  have hj__law_forms : 1 ≤ 2 := by decide
  exact (css_cons (cs_set (i := 4) c rfl (loc_by rfl) (fnT hf) (ce_call C__law_pick hj__law_pick c rfl (ca_cons (ce_var (i := 0) c rfl (vis_by rfl)) (ca_cons (ce_var (i := 3) c rfl (vis_by rfl)) ca_nil))))
  (css_cons (cs_set (i := 5) c rfl (loc_by rfl) (fnT hf) (ce_call C__law_draw hj__law_draw c rfl (ca_cons (ce_var (i := 0) c rfl (vis_by rfl)) (ca_cons ce_int ca_nil))))
  (css_cons (cs_set (i := 6) c rfl (loc_by rfl) (fnT hf) (ce_disp (cps_cons ce_str (ce_lstC ca_nil) (cps_cons ce_str (ce_lstC ca_nil) (cps_cons ce_str (ce_lstC ca_nil) cps_nil)))))
  (css_cons (cs_for c (ci_any c (ce_var (i := 1) c rfl (vis_by rfl))) (cg_name (i := 7) c rfl (loc_by rfl) (fnT hf)) (css_one (cs_expr (ce_append c (ce_ix c (ce_var (i := 6) c rfl (vis_by rfl)) (ce_call C__law_sort hj__law_sort c rfl (ca_cons (ce_ix c (ce_var (i := 7) c rfl (vis_by rfl)) ce_int) ca_nil))) (ca_cons (ce_ix c (ce_var (i := 7) c rfl (vis_by rfl)) ce_int) ca_nil)))))
  (css_cons (cs_if (ct_eq c (ce_var (i := 4) c rfl (vis_by rfl)) ce_str) (css_cons (cs_set (i := 10) c rfl (loc_by rfl) (fnT hf) (ce_call C__law_others hj__law_others c rfl (ca_cons (ce_var (i := 1) c rfl (vis_by rfl)) ca_nil)))
  (css_one (cs_ret (ce_if (ct_ne c (ce_var (i := 10) c rfl (vis_by rfl)) (ce_lst ca_nil)) (ce_add c (ce_tup (ca_cons ce_str (ca_cons (ce_var (i := 2) c rfl (vis_by rfl)) ca_nil))) (ce_ix c (ce_var (i := 10) c rfl (vis_by rfl)) (ce_mod c (ce_var (i := 5) c rfl (vis_by rfl)) (ce_len c b_len (ca_cons (ce_var (i := 10) c rfl (vis_by rfl)) ca_nil))))) (ce_tup (ca_cons ce_str (ca_cons (ce_var (i := 2) c rfl (vis_by rfl)) ca_nil))))))) css_nil)
  (css_cons (cs_set (i := 8) c rfl (loc_by rfl) (fnT hf) (ce_tup (ca_cons (ce_var (i := 4) c rfl (vis_by rfl)) (ca_cons (ce_var (i := 2) c rfl (vis_by rfl)) ca_nil))))
  (css_cons (cs_for c (ci_any c (ce_ix c (ce_call0 C__law_forms hj__law_forms c rfl) (ce_var (i := 4) c rfl (vis_by rfl)))) (cg_name (i := 9) c rfl (loc_by rfl) (fnT hf)) (css_one (cs_if (ct_eq c (ce_var (i := 9) c rfl (vis_by rfl)) ce_str) (css_one (cs_set (i := 8) c rfl (loc_by rfl) (fnT hf) (ce_add c (ce_var (i := 8) c rfl (vis_by rfl)) (ce_tup (ca_cons (ce_add c ce_int (ce_mod c (ce_var (i := 5) c rfl (vis_by rfl)) ce_int)) ca_nil))))) (css_one (cs_if (ct_eq c (ce_var (i := 9) c rfl (vis_by rfl)) ce_str) (css_one (cs_set (i := 8) c rfl (loc_by rfl) (fnT hf) (ce_add c (ce_var (i := 8) c rfl (vis_by rfl)) (ce_tup (ca_cons (ce_mod c (ce_var (i := 5) c rfl (vis_by rfl)) ce_int) ca_nil))))) (css_one (cs_if (ct_eq c (ce_ix c (ce_var (i := 6) c rfl (vis_by rfl)) (ce_var (i := 9) c rfl (vis_by rfl))) (ce_lst ca_nil)) (css_one (cs_ret (ce_tup (ca_cons ce_str (ca_cons (ce_var (i := 2) c rfl (vis_by rfl)) ca_nil))))) (css_one (cs_set (i := 8) c rfl (loc_by rfl) (fnT hf) (ce_add c (ce_var (i := 8) c rfl (vis_by rfl)) (ce_tup (ca_cons (ce_popAt c (ce_ix c (ce_var (i := 6) c rfl (vis_by rfl)) (ce_var (i := 9) c rfl (vis_by rfl))) (ca_cons (ce_call C__law_draw hj__law_draw c rfl (ca_cons (ce_var (i := 0) c rfl (vis_by rfl)) (ca_cons (ce_len c b_len (ca_cons (ce_ix c (ce_var (i := 6) c rfl (vis_by rfl)) (ce_var (i := 9) c rfl (vis_by rfl))) ca_nil)) ca_nil))) ca_nil)) ca_nil))))))))))))
  (css_one (cs_ret (ce_var (i := 8) c rfl (vis_by rfl)))))))))))
theorem C__law_next {G : Gd} {fd : FuncData} (b_len : G.mg "len" = none) (C__law_pick : Cal G 2 "_law_pick" ["_law_deck_here", "_law_some"] f__law_pick) (C__law_draw : Cal G 1 "_law_draw" ["_law_deck_here", "_law_most"] f__law_draw) (C__law_sort : Cal G 1 "_law_sort" ["_law_word"] f__law_sort) (C__law_others : Cal G 1 "_law_others" ["_law_steps"] f__law_others) (C__law_forms : Cal G 1 "_law_forms" [] f__law_forms) (F : FunD G.K "_law_next" "_law_next" (defArgs (top 36)) (defBody (top 36)) (defScope (top 36)) [] [] (He.ga G.K "_law_next") fd) (g : G.mg "_law_next" = some (.ref (He.ga G.K "_law_next"))) : Cal G 3 "_law_next" ["_law_deck_here", "_law_steps", "_law_name", "_law_words_here"] f__law_next :=
  cal_D F sc__law_next g (fun _ _ _ _ _ _ us hl => match us, hl with | [_, _, _, _], _ => rfl) (w__law_next b_len C__law_pick C__law_draw C__law_sort C__law_others C__law_forms)
/-! ### _law_words -/
noncomputable def m__law_words : MS := (mSeq (mAsg (mLst (mCons (mC (.str "free")) (mCons (mC (.str "on")) (mCons (mC (.str "round")) (mCons (mC (.str "meet")) (mCons (mC (.str "middle")) (mCons (mC (.str "foot")) (mCons (mC (.str "mirror")) (mCons (mC (.str "turn")) (mCons (mC (.str "other")) (mCons (mC (.str "line")) (mCons (mC (.str "line")) (mCons (mC (.str "along")) mNil))))))))))))) (gN 1))
  (mRet (mBin opAdd (mBin opAdd (mVar 1) (mLst (mCons (mC (.str "upright")) (mCons (mC (.str "circle")) (mCons (mC (.str "circle")) (mCons (mC (.str "meet")) mNil)))))) (mBin opMul (mLst (mCons (mC (.str "cross")) mNil)) (mCB fInt1 (mCons (mVar 0) mNil))))))
noncomputable def f__law_words : MF := callD 2 m__law_words
theorem sc__law_words : FnScope ["_law_with_cross", "_law_found"] ["_law_with_cross"] (defScope (top 37)) := ⟨rfl, rfl, rfl, by decide +kernel, rfl, by decide +kernel, by decide +kernel⟩
theorem w__law_words {G : Gd} (b_int : G.mg "int" = none) (X : Cx) (E : XK) (c : Cq G 0 E ["_law_with_cross", "_law_found"] (defScope (top 37)) X) (hf : X.fn = fun _ => true) : PSs X (defBody (top 37)) (sD G.K E m__law_words) := by
  exact (css_cons (cs_set (i := 1) c rfl (loc_by rfl) (fnT hf) (ce_lst (ca_cons ce_str (ca_cons ce_str (ca_cons ce_str (ca_cons ce_str (ca_cons ce_str (ca_cons ce_str (ca_cons ce_str (ca_cons ce_str (ca_cons ce_str (ca_cons ce_str (ca_cons ce_str (ca_cons ce_str ca_nil))))))))))))))
  (css_one (cs_ret (ce_add c (ce_add c (ce_var (i := 1) c rfl (vis_by rfl)) (ce_lst (ca_cons ce_str (ca_cons ce_str (ca_cons ce_str (ca_cons ce_str ca_nil)))))) (ce_mul c (ce_lst (ca_cons ce_str ca_nil)) (ce_int1 c b_int (ca_cons (ce_var (i := 0) c rfl (vis_by rfl)) ca_nil)))))))
theorem C__law_words {G : Gd} {fd : FuncData} (b_int : G.mg "int" = none) (F : FunD G.K "_law_words" "_law_words" (defArgs (top 37)) (defBody (top 37)) (defScope (top 37)) [] [] (He.ga G.K "_law_words") fd) (g : G.mg "_law_words" = some (.ref (He.ga G.K "_law_words"))) : Cal G 1 "_law_words" ["_law_with_cross"] f__law_words :=
  cal_D F sc__law_words g (fun _ _ _ _ _ _ us hl => match us, hl with | [_], _ => rfl) (w__law_words b_int)
/-! ### _law_sketch -/
noncomputable def m__law_sketch : MS := (mSeq (mAsg (mLstC (mCons (mTup (mCons (mC (.str "free")) (mCons (mBin opIx (mVar 1) (mC (.int 0))) mNil))) (mCons (mTup (mCons (mC (.str "free")) (mCons (mBin opIx (mVar 1) (mC (.int 1))) mNil))) (mCons (mTup (mCons (mC (.str "line")) (mCons (mBin opIx (mVar 1) (mC (.int 2))) (mCons (mBin opIx (mVar 1) (mC (.int 0))) (mCons (mBin opIx (mVar 1) (mC (.int 1))) mNil))))) mNil)))) (gN 4))
  (mSeq (mIfS (mTest (mBin opEq (mCall 2 f__law_draw (mCons (mVar 0) (mCons (mC (.int 2)) mNil))) (mC (.int 1)))) (mSetItem (mTup (mCons (mC (.str "circle")) (mCons (mBin opIx (mVar 1) (mC (.int 2))) (mCons (mBin opIx (mVar 1) (mC (.int 1))) (mCons (mBin opIx (mVar 1) (mC (.int 0))) mNil))))) (mVar 4) (mC (.int 2))) mNext)
  (mSeq (mFor (mRng rng2 (mCons (mC (.int 3)) (mCons (mCB fMax2 (mCons (mC (.int 3)) (mCons (mVar 2) mNil))) mNil))) (gN 5) (mDrop (mMeth isLst fAppend (mVar 4) (mCons (mCall 4 f__law_next (mCons (mVar 0) (mCons (mVar 4) (mCons (mBin opIx (mVar 1) (mVar 5)) (mCons (mVar 3) mNil))))) mNil))))
  (mRet (mCB fTuple (mCons (mSl (mVar 4) mNoPart (mPart (mVar 2))) mNil))))))
noncomputable def f__law_sketch : MF := callD 6 m__law_sketch
theorem sc__law_sketch : FnScope ["_law_deck_here", "_law_names_here", "_law_many", "_law_words_here", "_law_steps", "_law_k"] ["_law_deck_here", "_law_names_here", "_law_many", "_law_words_here"] (defScope (top 38)) := ⟨rfl, rfl, rfl, by decide +kernel, rfl, by decide +kernel, by decide +kernel⟩
theorem w__law_sketch {G : Gd} (b_max : G.mg "max" = none) (b_range : G.mg "range" = none) (b_tuple : G.mg "tuple" = none) (C__law_draw : Cal G 1 "_law_draw" ["_law_deck_here", "_law_most"] f__law_draw) (C__law_next : Cal G 3 "_law_next" ["_law_deck_here", "_law_steps", "_law_name", "_law_words_here"] f__law_next) (X : Cx) (E : XK) (c : Cq G 3 E ["_law_deck_here", "_law_names_here", "_law_many", "_law_words_here", "_law_steps", "_law_k"] (defScope (top 38)) X) (hf : X.fn = fun _ => true) : PSs X (defBody (top 38)) (sD G.K E m__law_sketch) := by
  have hj__law_draw : 1 ≤ 3 := by decide
  have hj__law_next : 3 ≤ 3 := by decide
  exact (css_cons (cs_set (i := 4) c rfl (loc_by rfl) (fnT hf) (ce_lstC (ca_cons (ce_tup (ca_cons ce_str (ca_cons (ce_ix c (ce_var (i := 1) c rfl (vis_by rfl)) ce_int) ca_nil))) (ca_cons (ce_tup (ca_cons ce_str (ca_cons (ce_ix c (ce_var (i := 1) c rfl (vis_by rfl)) ce_int) ca_nil))) (ca_cons (ce_tup (ca_cons ce_str (ca_cons (ce_ix c (ce_var (i := 1) c rfl (vis_by rfl)) ce_int) (ca_cons (ce_ix c (ce_var (i := 1) c rfl (vis_by rfl)) ce_int) (ca_cons (ce_ix c (ce_var (i := 1) c rfl (vis_by rfl)) ce_int) ca_nil))))) ca_nil)))))
  (css_cons (cs_if (ct_eq c (ce_call C__law_draw hj__law_draw c rfl (ca_cons (ce_var (i := 0) c rfl (vis_by rfl)) (ca_cons ce_int ca_nil))) ce_int) (css_one (cs_setItem c (ce_tup (ca_cons ce_str (ca_cons (ce_ix c (ce_var (i := 1) c rfl (vis_by rfl)) ce_int) (ca_cons (ce_ix c (ce_var (i := 1) c rfl (vis_by rfl)) ce_int) (ca_cons (ce_ix c (ce_var (i := 1) c rfl (vis_by rfl)) ce_int) ca_nil))))) (ce_var (i := 4) c rfl (vis_by rfl)) ce_int)) css_nil)
  (css_cons (cs_for c (ci_range2 c rfl b_range (ca_cons ce_int (ca_cons (ce_max2 c b_max (ca_cons ce_int (ca_cons (ce_var (i := 2) c rfl (vis_by rfl)) ca_nil))) ca_nil))) (cg_name (i := 5) c rfl (loc_by rfl) (fnT hf)) (css_one (cs_expr (ce_append c (ce_var (i := 4) c rfl (vis_by rfl)) (ca_cons (ce_call C__law_next hj__law_next c rfl (ca_cons (ce_var (i := 0) c rfl (vis_by rfl)) (ca_cons (ce_var (i := 4) c rfl (vis_by rfl)) (ca_cons (ce_ix c (ce_var (i := 1) c rfl (vis_by rfl)) (ce_var (i := 5) c rfl (vis_by rfl))) (ca_cons (ce_var (i := 3) c rfl (vis_by rfl)) ca_nil))))) ca_nil)))))
  (css_one (cs_ret (ce_tuple c b_tuple (ca_cons (ce_sl c (ce_var (i := 4) c rfl (vis_by rfl)) co_none (co_some (ce_var (i := 2) c rfl (vis_by rfl)))) ca_nil)))))))
theorem C__law_sketch {G : Gd} {fd : FuncData} (b_max : G.mg "max" = none) (b_range : G.mg "range" = none) (b_tuple : G.mg "tuple" = none) (C__law_draw : Cal G 1 "_law_draw" ["_law_deck_here", "_law_most"] f__law_draw) (C__law_next : Cal G 3 "_law_next" ["_law_deck_here", "_law_steps", "_law_name", "_law_words_here"] f__law_next) (F : FunD G.K "_law_sketch" "_law_sketch" (defArgs (top 38)) (defBody (top 38)) (defScope (top 38)) [] [] (He.ga G.K "_law_sketch") fd) (g : G.mg "_law_sketch" = some (.ref (He.ga G.K "_law_sketch"))) : Cal G 4 "_law_sketch" ["_law_deck_here", "_law_names_here", "_law_many", "_law_words_here"] f__law_sketch :=
  cal_D F sc__law_sketch g (fun _ _ _ _ _ _ us hl => match us, hl with | [_, _, _, _], _ => rfl) (w__law_sketch b_max b_range b_tuple C__law_draw C__law_next)
/-! ### _law_text -/
noncomputable def m__law_text : MS := (mRet (mMeth isStr fJoin (mC (.str "\n")) (mCons (mLc (mIter (mVar 0)) (gN 1) mYes (mMeth isStr fJoin (mC (.str " ")) (mCons (mLc (mIter (mVar 1)) (gN 2) mYes (mCB fStr (mCons (mVar 2) mNil)) [2]) mNil)) [1]) mNil)))
noncomputable def f__law_text : MF := callD 3 m__law_text
theorem sc__law_text : FnScope ["_law_steps", "_law_step", "_law_thing"] ["_law_steps"] (defScope (top 39)) := ⟨rfl, rfl, rfl, by decide +kernel, rfl, by decide +kernel, by decide +kernel⟩
theorem w__law_text {G : Gd} (b_str : G.mg "str" = none) (X : Cx) (E : XK) (c : Cq G 0 E ["_law_steps", "_law_step", "_law_thing"] (defScope (top 39)) X) (hf : X.fn = fun _ => true) : PSs X (defBody (top 39)) (sD G.K E m__law_text) := by
  exact (css_one (cs_ret (ce_join c ce_str (ca_cons (ce_lc (own := [("_law_step", 1)]) c (ci_any c (ce_var (i := 0) c rfl (vis_by rfl))) rfl rfl (fun _ cx hfcx => (cg_name (i := 1) cx rfl (loc_by rfl) (fnC hfcx (by first | exact .inr rfl | exact .inl rfl)))) (fun _ cx => cts_nil) (fun _ cx => (ce_join cx ce_str (ca_cons (ce_lc (own := [("_law_thing", 2)]) cx (ci_any cx (ce_var (i := 1) cx rfl (vis_by rfl))) rfl rfl (fun _ cxx hfcxx => (cg_name (i := 2) cxx rfl (loc_by rfl) (fnC hfcxx (by first | exact .inr rfl | exact .inl rfl)))) (fun _ cxx => cts_nil) (fun _ cxx => (ce_str1 cxx b_str (ca_cons (ce_var (i := 2) cxx rfl (vis_by rfl)) ca_nil))) (by decide)) ca_nil))) (by decide)) ca_nil))))
theorem C__law_text {G : Gd} {fd : FuncData} (b_str : G.mg "str" = none) (F : FunD G.K "_law_text" "_law_text" (defArgs (top 39)) (defBody (top 39)) (defScope (top 39)) [] [] (He.ga G.K "_law_text") fd) (g : G.mg "_law_text" = some (.ref (He.ga G.K "_law_text"))) : Cal G 1 "_law_text" ["_law_steps"] f__law_text :=
  cal_D F sc__law_text g (fun _ _ _ _ _ _ us hl => match us, hl with | [_], _ => rfl) (w__law_text b_str)
/-! ### _law_right -/
noncomputable def m__law_right : MS := (mSeq (mPar2 1 2 (mCons (mCB fRepr (mCons (mVar 0) mNil)) (mCons (mCall 1 f__law_text (mCons (mVar 0) mNil)) mNil)))
  (mSeq (mIfS (mOrT (mTest (mBin opNe (mCall 1 f_show_sketch (mCons (mVar 0) mNil)) (mVar 2))) (mTest (mBin opNe (mCB fRepr (mCons (mCallW 1 (permL [0]) f_show_sketch (mCons (mVar 0) mNil)) mNil)) (mCB fRepr (mCons (mVar 2) mNil))))) (mRet (mC (.bl false))) mNext)
  (mSeq (mAsg (mLst (mCons (mCall 1 f_read_sketch (mCons (mVar 2) mNil)) (mCons (mCallW 1 (permL [0]) f_read_sketch (mCons (mCall 1 f_show_sketch (mCons (mVar 0) mNil)) mNil)) mNil))) (gN 3))
  (mRet (mAndV (mBin opEq (mCB fRepr (mCons (mVar 3) mNil)) (mCB fRepr (mCons (mLst (mCons (mVar 0) (mCons (mVar 0) mNil))) mNil))) (mBin opEq (mCB fRepr (mCons (mVar 0) mNil)) (mVar 1)))))))
noncomputable def f__law_right : MF := callD 4 m__law_right
theorem sc__law_right : FnScope ["_law_steps", "_law_kept", "_law_lines", "_law_told"] ["_law_steps"] (defScope (top 40)) := ⟨rfl, rfl, rfl, by decide +kernel, rfl, by decide +kernel, by decide +kernel⟩
theorem w__law_right {G : Gd} (b_repr : G.mg "repr" = none) (C__law_text : Cal G 1 "_law_text" ["_law_steps"] f__law_text) (C_show_sketch : Cal G 2 "show_sketch" ["sketch"] f_show_sketch) (C_read_sketch : Cal G 4 "read_sketch" ["text"] f_read_sketch) (CW_show_sketch__sketch : CalW G 2 "show_sketch" ["sketch"] ["sketch"] (permL [0]) (permL [0]) (permL [0]) f_show_sketch) (CW_read_sketch__text : CalW G 4 "read_sketch" ["text"] ["text"] (permL [0]) (permL [0]) (permL [0]) f_read_sketch) (X : Cx) (E : XK) (c : Cq G 4 E ["_law_steps", "_law_kept", "_law_lines", "_law_told"] (defScope (top 40)) X) (hf : X.fn = fun _ => true) : PSs X (defBody (top 40)) (sD G.K E m__law_right) := by
  have hj__law_text : 1 ≤ 4 := by decide
  have hj_show_sketch : 2 ≤ 4 := by decide
  have hj_read_sketch : 4 ≤ 4 := by decide
  exact (css_cons (cs_pr2 (i := 1) (j := 2) c rfl rfl (by decide) rfl rfl (ca_cons (ce_repr c b_repr (ca_cons (ce_var (i := 0) c rfl (vis_by rfl)) ca_nil)) (ca_cons (ce_call C__law_text hj__law_text c rfl (ca_cons (ce_var (i := 0) c rfl (vis_by rfl)) ca_nil)) ca_nil)))
  (css_cons (cs_if (cw_or (ct_ne c (ce_call C_show_sketch hj_show_sketch c rfl (ca_cons (ce_var (i := 0) c rfl (vis_by rfl)) ca_nil)) (ce_var (i := 2) c rfl (vis_by rfl))) (cw_one_or (ct_ne c (ce_repr c b_repr (ca_cons (ce_callW CW_show_sketch__sketch hj_show_sketch c rfl (ck_cons (ce_var (i := 0) c rfl (vis_by rfl)) ck_nil)) ca_nil)) (ce_repr c b_repr (ca_cons (ce_var (i := 2) c rfl (vis_by rfl)) ca_nil))))).pt (css_one (cs_ret ce_bl)) css_nil)
  (css_cons (cs_set (i := 3) c rfl (loc_by rfl) (fnT hf) (ce_lst (ca_cons (ce_call C_read_sketch hj_read_sketch c rfl (ca_cons (ce_var (i := 2) c rfl (vis_by rfl)) ca_nil)) (ca_cons (ce_callW CW_read_sketch__text hj_read_sketch c rfl (ck_cons (ce_call C_show_sketch hj_show_sketch c rfl (ca_cons (ce_var (i := 0) c rfl (vis_by rfl)) ca_nil)) ck_nil)) ca_nil))))
  (css_one (cs_ret (ce_and (ce_eq c (ce_repr c b_repr (ca_cons (ce_var (i := 3) c rfl (vis_by rfl)) ca_nil)) (ce_repr c b_repr (ca_cons (ce_lst (ca_cons (ce_var (i := 0) c rfl (vis_by rfl)) (ca_cons (ce_var (i := 0) c rfl (vis_by rfl)) ca_nil))) ca_nil))) (ce_one (ce_eq c (ce_repr c b_repr (ca_cons (ce_var (i := 0) c rfl (vis_by rfl)) ca_nil)) (ce_var (i := 1) c rfl (vis_by rfl))))))))))
theorem C__law_right {G : Gd} {fd : FuncData} (b_repr : G.mg "repr" = none) (C__law_text : Cal G 1 "_law_text" ["_law_steps"] f__law_text) (C_show_sketch : Cal G 2 "show_sketch" ["sketch"] f_show_sketch) (C_read_sketch : Cal G 4 "read_sketch" ["text"] f_read_sketch) (CW_show_sketch__sketch : CalW G 2 "show_sketch" ["sketch"] ["sketch"] (permL [0]) (permL [0]) (permL [0]) f_show_sketch) (CW_read_sketch__text : CalW G 4 "read_sketch" ["text"] ["text"] (permL [0]) (permL [0]) (permL [0]) f_read_sketch) (F : FunD G.K "_law_right" "_law_right" (defArgs (top 40)) (defBody (top 40)) (defScope (top 40)) [] [] (He.ga G.K "_law_right") fd) (g : G.mg "_law_right" = some (.ref (He.ga G.K "_law_right"))) : Cal G 5 "_law_right" ["_law_steps"] f__law_right :=
  cal_D F sc__law_right g (fun _ _ _ _ _ _ us hl => match us, hl with | [_], _ => rfl) (w__law_right b_repr C__law_text C_show_sketch C_read_sketch CW_show_sketch__sketch CW_read_sketch__text)
/-! ### law -/
noncomputable def m_law : MS := (mSeq (mAsg (mCall 1 f__law_deck (mCons (mVar 0) mNil)) (gN 1))
  (mSeq (mAsg (mLstC mNil) (gN 2))
  (mSeq (mFor (mRng rng1 (mCons (mC (.int 8)) mNil)) (gN 3) (mSeq (mAsg (mCall 1 f__law_names (mCons (mVar 1) mNil)) (gN 5))
  (mSeq (mAsg (mBin opIx (mLst (mCons (mC (.int 14)) (mCons (mBin opAdd (mC (.int 2)) (mCall 2 f__law_draw (mCons (mVar 1) (mCons (mC (.int 12)) mNil)))) (mCons (mC (.int 0)) mNil)))) (mBin opAdd (mCB fInt1 (mCons (mBin opGt (mVar 3) (mC (.int 0))) mNil)) (mCB fInt1 (mCons (mBin opEq (mVar 3) (mC (.int 7))) mNil)))) (gN 6))
  (mDrop (mMeth isLst fAppend (mVar 2) (mCons (mCall 4 f__law_sketch (mCons (mVar 1) (mCons (mVar 5) (mCons (mVar 6) (mCons (mCall 1 f__law_words (mCons (mC (.bl true)) mNil)) mNil))))) mNil))))))
  (mSeq (mFor (mIter (mBin opAdd (mVar 2) (mSl (mVar 2) mNoPart (mPart (mC (.int 2)))))) (gN 4) (mIfS (mNotT (mTest (mCall 1 f__law_right (mCons (mVar 4) mNil)))) (mRet (mC (.bl false))) mNext))
  (mRet (mBin opEq (mCall 1 f_show_sketch (mCons (mTup (mCons (mTup (mCons (mC (.str "free")) (mCons (mC (.str "a")) mNil))) (mCons (mTup (mCons (mC (.str "free")) (mCons (mC (.str "b")) mNil))) (mCons (mTup (mCons (mC (.str "middle")) (mCons (mC (.str "m")) (mCons (mC (.str "a")) (mCons (mC (.str "b")) mNil))))) mNil)))) mNil)) (mC (.str "free a\nfree b\nmiddle m a b"))))))))
noncomputable def f_law : MF := callD 7 m_law
theorem sc_law : FnScope ["_law_script", "_law_deck_here", "_law_found", "_law_lap", "_law_steps", "_law_names_here", "_law_many"] ["_law_script"] (defScope (top 41)) := ⟨rfl, rfl, rfl, by decide +kernel, rfl, by decide +kernel, by decide +kernel⟩
theorem w_law {G : Gd} (b_range : G.mg "range" = none) (b_int : G.mg "int" = none) (C__law_deck : Cal G 1 "_law_deck" ["_law_script"] f__law_deck) (C__law_names : Cal G 2 "_law_names" ["_law_deck_here"] f__law_names) (C__law_draw : Cal G 1 "_law_draw" ["_law_deck_here", "_law_most"] f__law_draw) (C__law_sketch : Cal G 4 "_law_sketch" ["_law_deck_here", "_law_names_here", "_law_many", "_law_words_here"] f__law_sketch) (C__law_words : Cal G 1 "_law_words" ["_law_with_cross"] f__law_words) (C__law_right : Cal G 5 "_law_right" ["_law_steps"] f__law_right) (C_show_sketch : Cal G 2 "show_sketch" ["sketch"] f_show_sketch) (X : Cx) (E : XK) (c : Cq G 5 E ["_law_script", "_law_deck_here", "_law_found", "_law_lap", "_law_steps", "_law_names_here", "_law_many"] (defScope (top 41)) X) (hf : X.fn = fun _ => true) : PSs X (defBody (top 41)) (sD G.K E m_law) := by
  have hj__law_deck : 1 ≤ 5 := by decide
  have hj__law_names : 2 ≤ 5 := by decide
  have hj__law_draw : 1 ≤ 5 := by decide
  have hj__law_sketch : 4 ≤ 5 := by decide
  have hj__law_words : 1 ≤ 5 := by decide
  have hj__law_right : 5 ≤ 5 := by decide
  have hj_show_sketch : 2 ≤ 5 := by decide
  exact (css_cons (cs_set (i := 1) c rfl (loc_by rfl) (fnT hf) (ce_call C__law_deck hj__law_deck c rfl (ca_cons (ce_var (i := 0) c rfl (vis_by rfl)) ca_nil)))
  (css_cons (cs_set (i := 2) c rfl (loc_by rfl) (fnT hf) (ce_lstC ca_nil))
  (css_cons (cs_for c (ci_range1 c rfl b_range (ca_cons ce_int ca_nil)) (cg_name (i := 3) c rfl (loc_by rfl) (fnT hf)) (css_cons (cs_set (i := 5) c rfl (loc_by rfl) (fnT hf) (ce_call C__law_names hj__law_names c rfl (ca_cons (ce_var (i := 1) c rfl (vis_by rfl)) ca_nil)))
  (css_cons (cs_set (i := 6) c rfl (loc_by rfl) (fnT hf) (ce_ix c (ce_lst (ca_cons ce_int (ca_cons (ce_add c ce_int (ce_call C__law_draw hj__law_draw c rfl (ca_cons (ce_var (i := 1) c rfl (vis_by rfl)) (ca_cons ce_int ca_nil)))) (ca_cons ce_int ca_nil)))) (ce_add c (ce_int1 c b_int (ca_cons (ce_gt c (ce_var (i := 3) c rfl (vis_by rfl)) ce_int) ca_nil)) (ce_int1 c b_int (ca_cons (ce_eq c (ce_var (i := 3) c rfl (vis_by rfl)) ce_int) ca_nil)))))
  (css_one (cs_expr (ce_append c (ce_var (i := 2) c rfl (vis_by rfl)) (ca_cons (ce_call C__law_sketch hj__law_sketch c rfl (ca_cons (ce_var (i := 1) c rfl (vis_by rfl)) (ca_cons (ce_var (i := 5) c rfl (vis_by rfl)) (ca_cons (ce_var (i := 6) c rfl (vis_by rfl)) (ca_cons (ce_call C__law_words hj__law_words c rfl (ca_cons ce_bl ca_nil)) ca_nil))))) ca_nil)))))))
  (css_cons (cs_for c (ci_any c (ce_add c (ce_var (i := 2) c rfl (vis_by rfl)) (ce_sl c (ce_var (i := 2) c rfl (vis_by rfl)) co_none (co_some ce_int)))) (cg_name (i := 4) c rfl (loc_by rfl) (fnT hf)) (css_one (cs_if (ct_not (ct_val (ce_call C__law_right hj__law_right c rfl (ca_cons (ce_var (i := 4) c rfl (vis_by rfl)) ca_nil)))) (css_one (cs_ret ce_bl)) css_nil)))
  (css_one (cs_ret (ce_eq c (ce_call C_show_sketch hj_show_sketch c rfl (ca_cons (ce_tup (ca_cons (ce_tup (ca_cons ce_str (ca_cons ce_str ca_nil))) (ca_cons (ce_tup (ca_cons ce_str (ca_cons ce_str ca_nil))) (ca_cons (ce_tup (ca_cons ce_str (ca_cons ce_str (ca_cons ce_str (ca_cons ce_str ca_nil))))) ca_nil)))) ca_nil)) ce_str)))))))
theorem C_law {G : Gd} {fd : FuncData} (b_range : G.mg "range" = none) (b_int : G.mg "int" = none) (C__law_deck : Cal G 1 "_law_deck" ["_law_script"] f__law_deck) (C__law_names : Cal G 2 "_law_names" ["_law_deck_here"] f__law_names) (C__law_draw : Cal G 1 "_law_draw" ["_law_deck_here", "_law_most"] f__law_draw) (C__law_sketch : Cal G 4 "_law_sketch" ["_law_deck_here", "_law_names_here", "_law_many", "_law_words_here"] f__law_sketch) (C__law_words : Cal G 1 "_law_words" ["_law_with_cross"] f__law_words) (C__law_right : Cal G 5 "_law_right" ["_law_steps"] f__law_right) (C_show_sketch : Cal G 2 "show_sketch" ["sketch"] f_show_sketch) (F : FunD G.K "law" "law" (defArgs (top 41)) (defBody (top 41)) (defScope (top 41)) [] [] (He.ga G.K "law") fd) (g : G.mg "law" = some (.ref (He.ga G.K "law"))) : Cal G 6 "law" ["_law_script"] f_law :=
  cal_D F sc_law g (fun _ _ _ _ _ _ us hl => match us, hl with | [_], _ => rfl) (w_law b_range b_int C__law_deck C__law_names C__law_draw C__law_sketch C__law_words C__law_right C_show_sketch)
/-! ### the head -/
def d_is_name : He.DefD := ⟨("is_name", none), "is_name", "is_name", defArgs (top 13), defBody (top 13), defScope (top 13), [], []⟩
def d_is_within : He.DefD := ⟨("is_within", none), "is_within", "is_within", defArgs (top 14), defBody (top 14), defScope (top 14), [], []⟩
def d_sort_of : He.DefD := ⟨("sort_of", none), "sort_of", "sort_of", defArgs (top 15), defBody (top 15), defScope (top 15), [], []⟩
def d_names_in : He.DefD := ⟨("names_in", none), "names_in", "names_in", defArgs (top 16), defBody (top 16), defScope (top 16), [], []⟩
def d_is_thing : He.DefD := ⟨("is_thing", none), "is_thing", "is_thing", defArgs (top 17), defBody (top 17), defScope (top 17), [], []⟩
def d_is_through : He.DefD := ⟨("is_through", none), "is_through", "is_through", defArgs (top 18), defBody (top 18), defScope (top 18), [], []⟩
def d_is_met : He.DefD := ⟨("is_met", none), "is_met", "is_met", defArgs (top 19), defBody (top 19), defScope (top 19), [], []⟩
def d_fits_behind : He.DefD := ⟨("fits_behind", none), "fits_behind", "fits_behind", defArgs (top 20), defBody (top 20), defScope (top 20), [], []⟩
def d_show_step : He.DefD := ⟨("show_step", none), "show_step", "show_step", defArgs (top 23), defBody (top 23), defScope (top 23), [], []⟩
def d_show_sketch : He.DefD := ⟨("show_sketch", none), "show_sketch", "show_sketch", defArgs (top 24), defBody (top 24), defScope (top 24), [], []⟩
def d_thing_in : He.DefD := ⟨("thing_in", none), "thing_in", "thing_in", defArgs (top 25), defBody (top 25), defScope (top 25), [], []⟩
def d_step_in : He.DefD := ⟨("step_in", none), "step_in", "step_in", defArgs (top 26), defBody (top 26), defScope (top 26), [], []⟩
def d_read_sketch : He.DefD := ⟨("read_sketch", none), "read_sketch", "read_sketch", defArgs (top 27), defBody (top 27), defScope (top 27), [], []⟩
def d__law_deck : He.DefD := ⟨("_law_deck", none), "_law_deck", "_law_deck", defArgs (top 29), defBody (top 29), defScope (top 29), [], []⟩
def d__law_draw : He.DefD := ⟨("_law_draw", none), "_law_draw", "_law_draw", defArgs (top 30), defBody (top 30), defScope (top 30), [], []⟩
def d__law_pick : He.DefD := ⟨("_law_pick", none), "_law_pick", "_law_pick", defArgs (top 31), defBody (top 31), defScope (top 31), [], []⟩
def d__law_names : He.DefD := ⟨("_law_names", none), "_law_names", "_law_names", defArgs (top 32), defBody (top 32), defScope (top 32), [], []⟩
def d__law_forms : He.DefD := ⟨("_law_forms", none), "_law_forms", "_law_forms", defArgs (top 33), defBody (top 33), defScope (top 33), [], []⟩
def d__law_sort : He.DefD := ⟨("_law_sort", none), "_law_sort", "_law_sort", defArgs (top 34), defBody (top 34), defScope (top 34), [], []⟩
def d__law_others : He.DefD := ⟨("_law_others", none), "_law_others", "_law_others", defArgs (top 35), defBody (top 35), defScope (top 35), [], []⟩
def d__law_next : He.DefD := ⟨("_law_next", none), "_law_next", "_law_next", defArgs (top 36), defBody (top 36), defScope (top 36), [], []⟩
def d__law_words : He.DefD := ⟨("_law_words", none), "_law_words", "_law_words", defArgs (top 37), defBody (top 37), defScope (top 37), [], []⟩
def d__law_sketch : He.DefD := ⟨("_law_sketch", none), "_law_sketch", "_law_sketch", defArgs (top 38), defBody (top 38), defScope (top 38), [], []⟩
def d__law_text : He.DefD := ⟨("_law_text", none), "_law_text", "_law_text", defArgs (top 39), defBody (top 39), defScope (top 39), [], []⟩
def d__law_right : He.DefD := ⟨("_law_right", none), "_law_right", "_law_right", defArgs (top 40), defBody (top 40), defScope (top 40), [], []⟩
def d_law : He.DefD := ⟨("law", none), "law", "law", defArgs (top 41), defBody (top 41), defScope (top 41), [], []⟩
def fn : List He.DefD := [d_is_name, d_is_within, d_sort_of, d_names_in, d_is_thing, d_is_through, d_is_met, d_fits_behind, d_show_step, d_show_sketch, d_thing_in, d_step_in, d_read_sketch, d__law_deck, d__law_draw, d__law_pick, d__law_names, d__law_forms, d__law_sort, d__law_others, d__law_next, d__law_words, d__law_sketch, d__law_text, d__law_right, d_law]
def fa : List He.Fa := [.glo "is_name", .glo "is_within", .glo "sort_of", .glo "names_in", .glo "is_thing", .glo "is_through", .glo "is_met", .glo "fits_behind", .glo "show_step", .glo "show_sketch", .glo "thing_in", .glo "step_in", .glo "read_sketch", .glo "_law_deck", .glo "_law_draw", .glo "_law_pick", .glo "_law_names", .glo "_law_forms", .glo "_law_sort", .glo "_law_others", .glo "_law_next", .glo "_law_words", .glo "_law_sketch", .glo "_law_text", .glo "_law_right", .glo "law", .free "str", .free "isinstance", .free "len", .free "all", .free "int", .free "bool", .free "tuple", .free "zip", .free "enumerate", .free "list", .free "range", .free "max", .free "repr", .int "MOST_LETTERS" 8, .str "LETTERS" "abcdefghijklmnopqrstuvwxyz", .str "CIRCLE" "circle", .glo "LINES", .str "LINE" "line", .str "POINT" "point", .glo "NUMBERS", .glo "SORTS", .glo "FORMS", .str "FIGURES" "0123456789"]
def ex (K : PySem.W.Frag) : Bool := datB K 4 (.tup [.str "line", .str "along", .str "upright"]) (.ref (He.ga K "LINES")) && tabB K (He.ga K "NUMBERS") t_NUMBERS && tabB K (He.ga K "SORTS") t_SORTS && tabB K (He.ga K "FORMS") t_FORMS && true
def ts : List He.Tab := [((fun K => He.ga K "NUMBERS"), ["n", "k"]), ((fun K => He.ga K "SORTS"), ["P", "L", "C"]), ((fun K => He.ga K "FORMS"), ["free", "on", "round", "meet", "middle", "foot", "mirror", "turn", "other", "cross", "line", "along", "upright", "circle"])]
abbrev R : PySem.W.OpenRow := PySem.W.OpenLaw.row PySem.Challenge.rw_pointhouse_k18_sketches_written_and_read
abbrev hk : PySem.W.Hook := He.hookX 4 fa fn ts [] ex
def ob (s : PySem.W.SharedT) : He.AlX := He.obsX 4 fa fn ts [] ex (HandSHeadRun.getT s)
theorem ob_eq (s : PySem.W.SharedT) : ob s = hk.obs s.abs := He.obsX_eq (HandSHeadRun.getT_eq s)
def names : List PySem.Str := (["is_name", "is_within", "sort_of", "names_in", "is_thing", "is_through", "is_met", "fits_behind", "show_step", "show_sketch", "thing_in", "step_in", "read_sketch", "_law_deck", "_law_draw", "_law_pick", "_law_names", "_law_forms", "_law_sort", "_law_others"] : List PySem.Str) ++ (["_law_next", "_law_words", "_law_sketch", "_law_text", "_law_right", "LETTERS", "MOST_LETTERS", "POINT", "LINE", "CIRCLE", "FORMS", "LINES", "SORTS", "NUMBERS", "FIGURES", "PointError", "NoText"] : List PySem.Str)
set_option maxHeartbeats 0 in
theorem run (w : World) : HandSHeadRun.RunEq R (PySem.W.view R.prog [41]) hk ob 2000 names w := by
  refine PySem.W.byRow2 "special-get-raises" (P := fun w => HandSHeadRun.RunEq R (PySem.W.view R.prog [41]) hk ob 2000 names w) (fun w => ?_) (fun w => ?_) w <;> (intro os; kernel_rfl)
theorem facts {P : Program} {w : World} {K : PySem.W.Frag} {h base : Heap} {mg : Str → Option Value} (X : K.In h) (G : h.Ns mainGlobals mg) (cx : He.SaysX fa fn ts [] ex w h K) : Cal ⟨P, w, K, mg, base⟩ 6 "law" ["_law_script"] f_law := by
  have c := cx.t.d
  have k_MOST_LETTERS := He.int_ok (i := 8) X G (c.fact 39 (f := .int "MOST_LETTERS" 8) rfl)
  have k_LETTERS := He.str_ok (z := "abcdefghijklmnopqrstuvwxyz") X G (c.fact 40 (f := .str "LETTERS" "abcdefghijklmnopqrstuvwxyz") rfl)
  have k_CIRCLE := He.str_ok (z := "circle") X G (c.fact 41 (f := .str "CIRCLE" "circle") rfl)
  have k_LINES := And.intro (He.glo_ok X G (c.fact 42 (f := .glo "LINES") rfl)) (kis_dat (d := .tup [.str "line", .str "along", .str "upright"]) (and_l (and_l (and_l (and_l cx.more)))))
  have k_LINE := He.str_ok (z := "line") X G (c.fact 43 (f := .str "LINE" "line") rfl)
  have k_POINT := He.str_ok (z := "point") X G (c.fact 44 (f := .str "POINT" "point") rfl)
  have k_NUMBERS : KTab ⟨P, w, K, mg, base⟩ "NUMBERS" t_NUMBERS := ⟨He.glo_ok X G (c.fact 45 (f := .glo "NUMBERS") rfl), cx.t.tab 0 rfl, (and_r (and_l (and_l (and_l cx.more))))⟩
  have k_SORTS : KTab ⟨P, w, K, mg, base⟩ "SORTS" t_SORTS := ⟨He.glo_ok X G (c.fact 46 (f := .glo "SORTS") rfl), cx.t.tab 1 rfl, (and_r (and_l (and_l cx.more)))⟩
  have k_FORMS : KTab ⟨P, w, K, mg, base⟩ "FORMS" t_FORMS := ⟨He.glo_ok X G (c.fact 47 (f := .glo "FORMS") rfl), cx.t.tab 2 rfl, (and_r (and_l cx.more))⟩
  have k_FIGURES := He.str_ok (z := "0123456789") X G (c.fact 48 (f := .str "FIGURES" "0123456789") rfl)
  have b_str : mg "str" = none := He.free_ok X G (c.fact 26 (f := .free "str") rfl)
  have b_isinstance : mg "isinstance" = none := He.free_ok X G (c.fact 27 (f := .free "isinstance") rfl)
  have b_len : mg "len" = none := He.free_ok X G (c.fact 28 (f := .free "len") rfl)
  have b_all : mg "all" = none := He.free_ok X G (c.fact 29 (f := .free "all") rfl)
  have b_int : mg "int" = none := He.free_ok X G (c.fact 30 (f := .free "int") rfl)
  have b_bool : mg "bool" = none := He.free_ok X G (c.fact 31 (f := .free "bool") rfl)
  have b_tuple : mg "tuple" = none := He.free_ok X G (c.fact 32 (f := .free "tuple") rfl)
  have b_zip : mg "zip" = none := He.free_ok X G (c.fact 33 (f := .free "zip") rfl)
  have b_enumerate : mg "enumerate" = none := He.free_ok X G (c.fact 34 (f := .free "enumerate") rfl)
  have b_list : mg "list" = none := He.free_ok X G (c.fact 35 (f := .free "list") rfl)
  have b_range : mg "range" = none := He.free_ok X G (c.fact 36 (f := .free "range") rfl)
  have b_max : mg "max" = none := He.free_ok X G (c.fact 37 (f := .free "max") rfl)
  have b_repr : mg "repr" = none := He.free_ok X G (c.fact 38 (f := .free "repr") rfl)
  obtain ⟨_, F_is_name⟩ := c.def_ 0 (d := d_is_name) rfl
  have k_is_name := C_is_name (G := ⟨P, w, K, mg, base⟩) k_MOST_LETTERS k_LETTERS b_str b_isinstance b_len b_all F_is_name (He.glo_ok X G (c.fact 0 (f := .glo "is_name") rfl))
  obtain ⟨_, F_is_within⟩ := c.def_ 1 (d := d_is_within) rfl
  have k_is_within := C_is_within (G := ⟨P, w, K, mg, base⟩) b_int b_isinstance b_bool F_is_within (He.glo_ok X G (c.fact 1 (f := .glo "is_within") rfl))
  obtain ⟨_, F_sort_of⟩ := c.def_ 2 (d := d_sort_of) rfl
  have k_sort_of := C_sort_of (G := ⟨P, w, K, mg, base⟩) k_CIRCLE k_LINES k_LINE k_POINT F_sort_of (He.glo_ok X G (c.fact 2 (f := .glo "sort_of") rfl))
  obtain ⟨_, F_names_in⟩ := c.def_ 3 (d := d_names_in) rfl
  have k_names_in := C_names_in (G := ⟨P, w, K, mg, base⟩) b_str b_isinstance b_tuple F_names_in (He.glo_ok X G (c.fact 3 (f := .glo "names_in") rfl))
  obtain ⟨_, F_is_thing⟩ := c.def_ 4 (d := d_is_thing) rfl
  have k_is_thing := C_is_thing (G := ⟨P, w, K, mg, base⟩) k_NUMBERS k_SORTS b_str b_isinstance k_is_within k_sort_of F_is_thing (He.glo_ok X G (c.fact 4 (f := .glo "is_thing") rfl))
  obtain ⟨_, F_is_through⟩ := c.def_ 5 (d := d_is_through) rfl
  have k_is_through := C_is_through (G := ⟨P, w, K, mg, base⟩) k_LINE F_is_through (He.glo_ok X G (c.fact 5 (f := .glo "is_through") rfl))
  obtain ⟨_, F_is_met⟩ := c.def_ 6 (d := d_is_met) rfl
  have k_is_met := C_is_met (G := ⟨P, w, K, mg, base⟩) k_is_through F_is_met (He.glo_ok X G (c.fact 6 (f := .glo "is_met") rfl))
  obtain ⟨_, F_fits_behind⟩ := c.def_ 7 (d := d_fits_behind) rfl
  have k_fits_behind := C_fits_behind (G := ⟨P, w, K, mg, base⟩) k_FORMS b_tuple b_isinstance b_len b_str b_zip b_all k_is_name k_is_thing k_names_in k_is_met F_fits_behind (He.glo_ok X G (c.fact 7 (f := .glo "fits_behind") rfl))
  obtain ⟨_, F_show_step⟩ := c.def_ 8 (d := d_show_step) rfl
  have k_show_step := C_show_step (G := ⟨P, w, K, mg, base⟩) b_str F_show_step (He.glo_ok X G (c.fact 8 (f := .glo "show_step") rfl))
  obtain ⟨_, F_show_sketch⟩ := c.def_ 9 (d := d_show_sketch) rfl
  have kw_show_sketch__sketch := CW_show_sketch__sketch (G := ⟨P, w, K, mg, base⟩) k_show_step F_show_sketch (He.glo_ok X G (c.fact 9 (f := .glo "show_sketch") rfl))
  have k_show_sketch := C_show_sketch (G := ⟨P, w, K, mg, base⟩) k_show_step F_show_sketch (He.glo_ok X G (c.fact 9 (f := .glo "show_sketch") rfl))
  obtain ⟨_, F_thing_in⟩ := c.def_ 10 (d := d_thing_in) rfl
  have k_thing_in := C_thing_in (G := ⟨P, w, K, mg, base⟩) k_FIGURES b_len b_int F_thing_in (He.glo_ok X G (c.fact 10 (f := .glo "thing_in") rfl))
  obtain ⟨_, F_step_in⟩ := c.def_ 11 (d := d_step_in) rfl
  have k_step_in := C_step_in (G := ⟨P, w, K, mg, base⟩) b_tuple k_thing_in F_step_in (He.glo_ok X G (c.fact 11 (f := .glo "step_in") rfl))
  obtain ⟨_, F_read_sketch⟩ := c.def_ 12 (d := d_read_sketch) rfl
  have kw_read_sketch__text := CW_read_sketch__text (G := ⟨P, w, K, mg, base⟩) b_str b_isinstance b_enumerate b_tuple k_step_in k_fits_behind F_read_sketch (He.glo_ok X G (c.fact 12 (f := .glo "read_sketch") rfl))
  have k_read_sketch := C_read_sketch (G := ⟨P, w, K, mg, base⟩) b_str b_isinstance b_enumerate b_tuple k_step_in k_fits_behind F_read_sketch (He.glo_ok X G (c.fact 12 (f := .glo "read_sketch") rfl))
  obtain ⟨_, F__law_deck⟩ := c.def_ 13 (d := d__law_deck) rfl
  have k__law_deck := C__law_deck (G := ⟨P, w, K, mg, base⟩) b_list F__law_deck (He.glo_ok X G (c.fact 13 (f := .glo "_law_deck") rfl))
  obtain ⟨_, F__law_draw⟩ := c.def_ 14 (d := d__law_draw) rfl
  have k__law_draw := C__law_draw (G := ⟨P, w, K, mg, base⟩) F__law_draw (He.glo_ok X G (c.fact 14 (f := .glo "_law_draw") rfl))
  obtain ⟨_, F__law_pick⟩ := c.def_ 15 (d := d__law_pick) rfl
  have k__law_pick := C__law_pick (G := ⟨P, w, K, mg, base⟩) b_len k__law_draw F__law_pick (He.glo_ok X G (c.fact 15 (f := .glo "_law_pick") rfl))
  obtain ⟨_, F__law_names⟩ := c.def_ 16 (d := d__law_names) rfl
  have k__law_names := C__law_names (G := ⟨P, w, K, mg, base⟩) b_range b_enumerate k__law_draw F__law_names (He.glo_ok X G (c.fact 16 (f := .glo "_law_names") rfl))
  obtain ⟨_, F__law_forms⟩ := c.def_ 17 (d := d__law_forms) rfl
  have k__law_forms := C__law_forms (G := ⟨P, w, K, mg, base⟩) F__law_forms (He.glo_ok X G (c.fact 17 (f := .glo "_law_forms") rfl))
  obtain ⟨_, F__law_sort⟩ := c.def_ 18 (d := d__law_sort) rfl
  have k__law_sort := C__law_sort (G := ⟨P, w, K, mg, base⟩) F__law_sort (He.glo_ok X G (c.fact 18 (f := .glo "_law_sort") rfl))
  obtain ⟨_, F__law_others⟩ := c.def_ 19 (d := d__law_others) rfl
  have k__law_others := C__law_others (G := ⟨P, w, K, mg, base⟩) F__law_others (He.glo_ok X G (c.fact 19 (f := .glo "_law_others") rfl))
  obtain ⟨_, F__law_next⟩ := c.def_ 20 (d := d__law_next) rfl
  have k__law_next := C__law_next (G := ⟨P, w, K, mg, base⟩) b_len k__law_pick k__law_draw k__law_sort k__law_others k__law_forms F__law_next (He.glo_ok X G (c.fact 20 (f := .glo "_law_next") rfl))
  obtain ⟨_, F__law_words⟩ := c.def_ 21 (d := d__law_words) rfl
  have k__law_words := C__law_words (G := ⟨P, w, K, mg, base⟩) b_int F__law_words (He.glo_ok X G (c.fact 21 (f := .glo "_law_words") rfl))
  obtain ⟨_, F__law_sketch⟩ := c.def_ 22 (d := d__law_sketch) rfl
  have k__law_sketch := C__law_sketch (G := ⟨P, w, K, mg, base⟩) b_max b_range b_tuple k__law_draw k__law_next F__law_sketch (He.glo_ok X G (c.fact 22 (f := .glo "_law_sketch") rfl))
  obtain ⟨_, F__law_text⟩ := c.def_ 23 (d := d__law_text) rfl
  have k__law_text := C__law_text (G := ⟨P, w, K, mg, base⟩) b_str F__law_text (He.glo_ok X G (c.fact 23 (f := .glo "_law_text") rfl))
  obtain ⟨_, F__law_right⟩ := c.def_ 24 (d := d__law_right) rfl
  have k__law_right := C__law_right (G := ⟨P, w, K, mg, base⟩) b_repr k__law_text k_show_sketch k_read_sketch kw_show_sketch__sketch kw_read_sketch__text F__law_right (He.glo_ok X G (c.fact 24 (f := .glo "_law_right") rfl))
  obtain ⟨_, F_law⟩ := c.def_ 25 (d := d_law) rfl
  exact C_law (G := ⟨P, w, K, mg, base⟩) b_range b_int k__law_deck k__law_names k__law_draw k__law_sketch k__law_words k__law_right k_show_sketch F_law (He.glo_ok X G (c.fact 25 (f := .glo "law") rfl))
end K18
open PySem PySem.W PySem.Calls PyProof.Rows in
theorem K18.holds_of (math : ∀ ns : List Int, ns.length ≤ 63 → (∀ z ∈ ns, Builtin.Int.intBits z ≤ 1048576) → ∃ M', K18.f_law [Ly.scriptD ns] [] = .ok (.bl true) M') : PySem.Challenge.rw_pointhouse_k18_sketches_written_and_read.Holds := by
  w_on; o_law
  refine HandSHeadRun.head_any (r := OpenLaw.row PySem.Challenge.rw_pointhouse_k18_sketches_written_and_read) (q := view (OpenLaw.row PySem.Challenge.rw_pointhouse_k18_sketches_written_and_read).prog [41]) (H := K18.hk) (ob := K18.ob) (M := 2000) (loose := K18.names) (d := HandSHeadRun.topDef (OpenLaw.row PySem.Challenge.rw_pointhouse_k18_sketches_written_and_read).prog 41) (kwd := []) K18.ob_eq
    (by kernel_rfl) (fun s => by kernel_rfl) K18.run (by kernel_rfl) (by kernel_rfl) (by kernel_rfl) (by rfl) (by first | assumption | decide +kernel) (by decide +kernel) ⟨rfl, rfl, rfl, rfl, rfl, by decide +kernel⟩ ?hw ?hc
  case hw => w_witness2
  case hc =>
    refine Ly.walk_data (l := PySem.Challenge.rw_pointhouse_k18_sketches_written_and_read) (n := 63) (k := 6) (x := "law") (y := "_law_script") (f := K18.f_law) rfl (by decide) (by kernel_rfl) ⟨rfl, by decide, by decide⟩ ?F math
    intro w mg fa h Y G hmg0
    obtain ⟨K, KX, c⟩ := Y
    have hmg : mg ("law" : PySem.Str) = some (.ref fa) := by
      have e : (HandSHeadRun.topDef (OpenLaw.row PySem.Challenge.rw_pointhouse_k18_sketches_written_and_read).prog 41).name = ("law" : PySem.Str) := by kernel_rfl
      rw [← e]
      exact hmg0
    have e := hmg.symm.trans (He.glo_ok KX G (c.t.d.fact 25 (f := .glo "law") rfl))
    cases e
    exact ⟨K, KX, rfl, fun base _ _ => K18.facts KX G c⟩

namespace Sk
open PySem PySem.Spec PyProof.Rows L2 Ly
def t_FORMS : List (Str × D) := [("free", .str ""), ("on", .str "L"), ("round", .str "C"), ("meet", .str "LL"), ("middle", .str "PP"), ("foot", .str "PL"), ("mirror", .str "PL"), ("turn", .str "PPn"), ("other", .str "LCP"), ("cross", .str "LCk"), ("line", .str "PP"), ("along", .str "PL"), ("upright", .str "PL"), ("circle", .str "PP")]
def t_SORTS : List (Str × D) := [("P", .str "point"), ("L", .str "line"), ("C", .str "circle")]
def t_NUMBERS : List (Str × D) := [("n", .tup [.int 1, .int 3]), ("k", .tup [.int 0, .int 1])]
noncomputable def m_is_name : MS := (mRet (mAndV (mCB fIsi (mCons (mVar 0) (mCons (mC (.ty "str")) mNil))) (mAndV (mChain opLe opLe (mC (.int 1)) (mCB fLen (mCons (mVar 0) mNil)) (mC (.int 8))) (mCB (fBools fun bs => bs.all id) (mCons (mLc (mIter (mVar 0)) (gN 1) mYes (mBin opIn (mVar 1) (mC (.str "abcdefghijklmnopqrstuvwxyz"))) [1]) mNil)))))
noncomputable def f_is_name : MF := callD 2 m_is_name
noncomputable def m_is_within : MS := (mRet (mAndV (mCB fIsi (mCons (mVar 2) (mCons (mC (.ty "int")) mNil))) (mAndV (mNotV (mCB fIsi (mCons (mVar 2) (mCons (mC (.ty "bool")) mNil)))) (mChain opLe opLe (mVar 0) (mVar 2) (mVar 1)))))
noncomputable def f_is_within : MF := callD 3 m_is_within
noncomputable def m_sort_of : MS := (mSeq (mIfS (mTest (mBin opEq (mBin opIx (mVar 0) (mC (.int 0))) (mC (.str "circle")))) (mRet (mC (.str "circle"))) mNext)
  (mRet (mIf (mTest (mBin opIn (mBin opIx (mVar 0) (mC (.int 0))) (mC (.tup [.str "line", .str "along", .str "upright"])))) (mC (.str "line")) (mC (.str "point")))))
noncomputable def f_sort_of : MF := callD 1 m_sort_of
noncomputable def m_names_in : MS := (mSeq (mAsg (mVar 0) (gStarD 3 2 [(gN 1), (gN 2), (gN 3)]))
  (mRet (mCB fTuple (mCons (mLc (mIter (mVar 3)) (gN 4) (mTest (mCB fIsi (mCons (mVar 4) (mCons (mC (.ty "str")) mNil)))) (mVar 4) [4]) mNil))))
noncomputable def f_names_in : MF := callD 5 m_names_in
noncomputable def m_is_thing : MS := (mSeq (mIfS (mTest (mUn (opInTab t_NUMBERS) (mVar 1))) (mSeq (mAsg (mUn (opTab t_NUMBERS) (mVar 1)) (gU [(gN 3), (gN 4)]))
  (mRet (mCall 3 f_is_within (mCons (mVar 3) (mCons (mVar 4) (mCons (mVar 2) mNil)))))) mNext)
  (mRet (mAndV (mCB fIsi (mCons (mVar 2) (mCons (mC (.ty "str")) mNil))) (mAndV (mBin opIn (mVar 2) (mVar 0)) (mBin opEq (mCall 1 f_sort_of (mCons (mBin opIx (mVar 0) (mVar 2)) mNil)) (mUn (opTab t_SORTS) (mVar 1)))))))
noncomputable def f_is_thing : MF := callD 5 m_is_thing
noncomputable def m_is_through : MS := (mSeq (mAsg (mVar 0) (gU [(gN 2), (gN 3), (gN 4), (gN 5)]))
  (mRet (mOrV (mBin opEq (mVar 1) (mVar 4)) (mAndV (mBin opEq (mVar 2) (mC (.str "line"))) (mBin opEq (mVar 1) (mVar 5))))))
noncomputable def f_is_through : MF := callD 6 m_is_through
noncomputable def m_is_met : MS := (mSeq (mAsg (mVar 1) (gStarD 3 2 [(gN 2), (gN 3), (gN 4)]))
  (mSeq (mIfS (mTest (mBin opNe (mVar 2) (mC (.str "other")))) (mRet (mC (.bl true))) mNext)
  (mSeq (mAsg (mVar 4) (gU [(gN 5), (gN 6), (gN 7)]))
  (mRet (mAndV (mCall 2 f_is_through (mCons (mBin opIx (mVar 0) (mVar 5)) (mCons (mVar 7) mNil))) (mBin opEq (mBin opIx (mBin opIx (mVar 0) (mVar 6)) (mC (.int 3))) (mVar 7)))))))
noncomputable def f_is_met : MF := callD 8 m_is_met
noncomputable def m_fits_behind : MS := (mSeq (mIfS (mOrT (mNotT (mTest (mCB fIsi (mCons (mVar 1) (mCons (mC (.ty "tuple")) mNil))))) (mOrT (mTest (mBin opLt (mCB fLen (mCons (mVar 1) mNil)) (mC (.int 2)))) (mOrT (mNotT (mTest (mCB fIsi (mCons (mBin opIx (mVar 1) (mC (.int 0))) (mCons (mC (.ty "str")) mNil))))) (mTest (mUn (opNotInTab t_FORMS) (mBin opIx (mVar 1) (mC (.int 0)))))))) (mRet (mC (.bl false))) mNext)
  (mSeq (mAsg (mVar 1) (gStarD 3 2 [(gN 2), (gN 3), (gN 4)]))
  (mSeq (mAsg (mUn (opTab t_FORMS) (mVar 2)) (gN 5))
  (mSeq (mIfS (mOrT (mNotT (mTest (mCall 1 f_is_name (mCons (mVar 3) mNil)))) (mOrT (mTest (mBin opIn (mVar 3) (mVar 0))) (mTest (mBin opNe (mCB fLen (mCons (mVar 4) mNil)) (mCB fLen (mCons (mVar 5) mNil)))))) (mRet (mC (.bl false))) mNext)
  (mSeq (mIfS (mNotT (mTest (mCB (fBools fun bs => bs.all id) (mCons (mLc (mRng (zipF true) (mCons (mVar 5) (mCons (mVar 4) mNil))) (gT [(gN 7), (gN 8)]) mYes (mCall 3 f_is_thing (mCons (mVar 0) (mCons (mVar 7) (mCons (mVar 8) mNil)))) [7, 8]) mNil)))) (mRet (mC (.bl false))) mNext)
  (mSeq (mAsg (mCall 1 f_names_in (mCons (mVar 1) mNil)) (gN 6))
  (mRet (mAndV (mBin opEq (mLenSc (mIter (mVar 6)) (gN 9) mYes (mVar 9) [9]) (mCB fLen (mCons (mVar 6) mNil))) (mCall 2 f_is_met (mCons (mVar 0) (mCons (mVar 1) mNil)))))))))))
noncomputable def f_fits_behind : MF := callD 10 m_fits_behind
noncomputable def m_show_step : MS := (mRet (mMeth isStr fJoin (mC (.str " ")) (mCons (mLc (mIter (mVar 0)) (gN 1) mYes (mCB fStr (mCons (mVar 1) mNil)) [1]) mNil)))
noncomputable def f_show_step : MF := callD 2 m_show_step
noncomputable def m_show_sketch : MS := (mRet (mMeth isStr fJoin (mC (.str "\n")) (mCons (mLc (mIter (mVar 0)) (gN 1) mYes (mCall 1 f_show_step (mCons (mVar 1) mNil)) [1]) mNil)))
noncomputable def f_show_sketch : MF := callD 2 m_show_sketch
noncomputable def m_thing_in : MS := (mRet (mIf (mAndT (mTest (mBin opEq (mCB fLen (mCons (mVar 0) mNil)) (mC (.int 1)))) (mTest (mBin opIn (mVar 0) (mC (.str "0123456789"))))) (mCB fIntS (mCons (mVar 0) mNil)) (mVar 0)))
noncomputable def f_thing_in : MF := callD 1 m_thing_in
noncomputable def m_step_in : MS := (mRet (mCB fTuple (mCons (mLc (mIter (mMeth isStr fSplit (mVar 0) (mCons (mC (.str " ")) mNil))) (gN 1) mYes (mCall 1 f_thing_in (mCons (mVar 1) mNil)) [1]) mNil)))
noncomputable def f_step_in : MF := callD 2 m_step_in
noncomputable def m_read_sketch : MS := (mSeq (mIfS (mNotT (mTest (mCB fIsi (mCons (mVar 0) (mCons (mC (.ty "str")) mNil))))) mBadS mNext)
  (mSeq (mAsg (mDNew true) (gN 1))
  (mSeq (mAsg (mIf (mTest (mBin opNe (mVar 0) (mC (.str "")))) (mMeth isStr fSplit (mVar 0) (mCons (mC (.str "\n")) mNil)) (mLst mNil)) (gN 2))
  (mSeq (mFor (mEnum (mVar 2)) (gT [(gN 3), (gN 4)]) (mSeq (mAsg (mCall 1 f_step_in (mCons (mVar 4) mNil)) (gN 5))
  (mSeq (mIfS (mNotT (mTest (mCall 2 f_fits_behind (mCons (mVar 1) (mCons (mVar 5) mNil))))) mBadS mNext)
  (mSetItem (mVar 5) (mVar 1) (mBin opIx (mVar 5) (mC (.int 1)))))))
  (mRet (mCB fTuple (mCons (mVals 1 6) mNil)))))))
noncomputable def f_read_sketch : MF := callD 7 m_read_sketch
end Sk

namespace Sk
open PySem PySem.Spec PyProof.Rows L2 Ly
noncomputable def m__law_deck : MS := (mSeq (mAsg (mCB fList (mCons (mSl (mVar 0) mNoPart (mPart (mC (.int 63)))) mNil)) (gN 1))
  (mSeq (mAsg (mC (.int 69621)) (gN 2))
  (mSeq (mFor (mIter (mVar 1)) (gN 3) (mAsg (mBin opMod (mBin opAdd (mBin opAdd (mBin opMul (mVar 2) (mC (.int 39373))) (mBin opMod (mVar 3) (mC (.int 2147483587)))) (mC (.int 11))) (mC (.int 2147483629))) (gN 2)))
  (mRet (mLstC (mCons (mUn opRevC (mVar 1)) (mCons (mVar 2) (mCons (mC (.int 0)) mNil))))))))
noncomputable def f__law_deck : MF := callK 4 m__law_deck
noncomputable def m__law_draw : MS := (mSeq (mSetItem (mBin opAdd (mBin opIx (mVar 0) (mC (.int 2))) (mC (.int 1))) (mVar 0) (mC (.int 2)))
  (mSeq (mAsg (mBin opIx (mVar 0) (mC (.int 1))) (gN 2))
  (mSeq (mIfS (mTest (mBin opNe (mBin opIx (mVar 0) (mC (.int 0))) (mLst mNil))) (mSeq (mAsg (mMeth isLst fPop (mBin opIx (mVar 0) (mC (.int 0))) mNil) (gN 2))
  (mIfS (mTest (mBin opGe (mVar 2) (mBin opPow (mC (.int 10)) (mC (.int 18))))) (mSeq (mDrop (mMeth isLst fAppend (mBin opIx (mVar 0) (mC (.int 0))) (mCons (mBin opFdiv (mVar 2) (mVar 1)) mNil)))
  (mRet (mBin opMod (mVar 2) (mVar 1)))) mNext)) mNext)
  (mSeq (mAsg (mBin opAdd (mBin opAdd (mBin opMod (mVar 2) (mC (.int 2147483629))) (mBin opMul (mBin opMul (mC (.int 130363)) (mBin opIx (mVar 0) (mC (.int 2)))) (mBin opIx (mVar 0) (mC (.int 2))))) (mBin opIx (mVar 0) (mC (.int 1)))) (gN 3))
  (mSeq (mAsg (mBin opMod (mBin opAdd (mBin opMul (mVar 3) (mC (.int 48271))) (mBin opMul (mC (.int 40692)) (mBin opIx (mVar 0) (mC (.int 2))))) (mC (.int 2147483563))) (gN 3))
  (mSeq (mAsg (mBin opMod (mBin opAdd (mBin opMul (mVar 3) (mVar 3)) (mC (.int 31))) (mC (.int 2147483587))) (gN 3))
  (mRet (mBin opMod (mBin opFdiv (mBin opMod (mBin opMul (mVar 3) (mC (.int 16807))) (mC (.int 2147483647))) (mC (.int 64))) (mVar 1)))))))))
noncomputable def f__law_draw : MF := callD 4 m__law_draw
noncomputable def m__law_pick : MS := (mRet (mBin opIx (mVar 1) (mCall 2 f__law_draw (mCons (mVar 0) (mCons (mCB fLen (mCons (mVar 1) mNil)) mNil)))))
noncomputable def f__law_pick : MF := callD 2 m__law_pick
noncomputable def m__law_names : MS := (mSeq (mAsg (mC (.str "abcdefghijklmnopqrstuvwxyz")) (gN 1))
  (mSeq (mAsg (mCall 2 f__law_draw (mCons (mVar 0) (mCons (mC (.int 4)) mNil))) (gN 2))
  (mSeq (mAsg (mCall 2 f__law_draw (mCons (mVar 0) (mCons (mC (.int 8)) mNil))) (gN 3))
  (mSeq (mAsg (mMeth isStr fJoin (mC (.str "")) (mCons (mLc (mRng rng1 (mCons (mC (.int 8)) mNil)) (gN 6) mYes (mBin opIx (mVar 1) (mCall 2 f__law_draw (mCons (mVar 0) (mCons (mC (.int 26)) mNil)))) [6]) mNil)) (gN 4))
  (mSeq (mIfS (mTest (mBin opEq (mVar 2) (mC (.int 0)))) (mRet (mLc (mRng rng1 (mCons (mC (.int 16)) mNil)) (gN 6) mYes (mBin opIx (mVar 1) (mBin opMod (mBin opAdd (mVar 3) (mBin opMul (mC (.int 5)) (mVar 6))) (mC (.int 26)))) [6])) mNext)
  (mSeq (mIfS (mTest (mBin opEq (mVar 2) (mC (.int 1)))) (mSeq (mAsg (mLst (mCons (mC (.str "line")) (mCons (mC (.str "free")) (mCons (mC (.str "at")) (mCons (mC (.str "row")) (mCons (mC (.str "on")) (mCons (mC (.str "circle")) (mCons (mC (.str "meet")) (mCons (mC (.str "same")) (mCons (mC (.str "holds")) (mCons (mC (.str "a")) (mCons (mC (.str "none")) (mCons (mC (.str "ring")) mNil))))))))))))) (gN 8))
  (mRet (mBin opAdd (mBin opAdd (mSl (mVar 8) (mPart (mVar 3)) mNoPart) (mSl (mVar 8) mNoPart (mPart (mVar 3)))) (mLst (mCons (mC (.str "foot")) (mCons (mC (.str "p")) (mCons (mC (.str "turn")) (mCons (mC (.str "cross")) mNil)))))))) mNext)
  (mSeq (mAsg (mLstC mNil) (gN 5))
  (mSeq (mFor (mRng rng1 (mCons (mC (.int 16)) mNil)) (gN 6) (mIfS (mTest (mBin opEq (mVar 2) (mC (.int 2)))) (mDrop (mMeth isLst fAppend (mVar 5) (mCons (mBin opIx (mLst (mCons (mSl (mVar 4) mNoPart (mPart (mBin opAdd (mC (.int 1)) (mBin opMod (mVar 6) (mC (.int 8)))))) (mCons (mBin opAdd (mC (.str "z")) (mSl (mVar 4) mNoPart (mPart (mBin opMod (mVar 6) (mC (.int 8)))))) mNil))) (mBin opFdiv (mVar 6) (mC (.int 8)))) mNil))) (mSeq (mAsg (mBin opIx (mVar 1) (mBin opMod (mBin opAdd (mMeth isStr fIndex (mVar 1) (mCons (mBin opIx (mVar 4) (mVar 3)) mNil)) (mVar 6)) (mC (.int 26)))) (gN 9))
  (mDrop (mMeth isLst fAppend (mVar 5) (mCons (mBin opAdd (mBin opAdd (mSl (mVar 4) mNoPart (mPart (mVar 3))) (mVar 9)) (mSl (mVar 4) (mPart (mBin opAdd (mVar 3) (mC (.int 1)))) mNoPart)) mNil))))))
  (mSeq (mAsg (mLc (mEnum (mVar 5)) (gT [(gN 6), (gN 10)]) (mTest (mBin opNotIn (mVar 10) (mSl (mVar 5) mNoPart (mPart (mVar 6))))) (mVar 10) [6, 10]) (gN 5))
  (mSeq (mAsg (mLst (mCons (mC (.str "qa")) (mCons (mC (.str "qb")) (mCons (mC (.str "qc")) (mCons (mC (.str "qd")) (mCons (mC (.str "qe")) (mCons (mC (.str "qf")) (mCons (mC (.str "qg")) (mCons (mC (.str "qh")) (mCons (mC (.str "qi")) (mCons (mC (.str "qj")) (mCons (mC (.str "qk")) (mCons (mC (.str "ql")) (mCons (mC (.str "qm")) (mCons (mC (.str "qn")) (mCons (mC (.str "qo")) (mCons (mC (.str "qp")) mNil))))))))))))))))) (gN 7))
  (mRet (mSl (mBin opAdd (mVar 5) (mLc (mIter (mVar 7)) (gN 10) (mTest (mBin opNotIn (mVar 10) (mVar 5))) (mVar 10) [10])) mNoPart (mPart (mC (.int 16)))))))))))))))
noncomputable def f__law_names : MF := callD 11 m__law_names
noncomputable def m__law_forms : MS := (mSeq (mAsg (mDisp true [((mC (.str "free")), (mC (.str ""))), ((mC (.str "on")), (mC (.str "L"))), ((mC (.str "round")), (mC (.str "C"))), ((mC (.str "meet")), (mC (.str "LL"))), ((mC (.str "middle")), (mC (.str "PP"))), ((mC (.str "foot")), (mC (.str "PL"))), ((mC (.str "mirror")), (mC (.str "PL")))]) (gN 0))
  (mSeq (mDrop (mMeth isDic fUpdate (mVar 0) (mCons (mDisp false [((mC (.str "turn")), (mC (.str "PPn"))), ((mC (.str "other")), (mC (.str "LCP"))), ((mC (.str "cross")), (mC (.str "LCk"))), ((mC (.str "line")), (mC (.str "PP"))), ((mC (.str "along")), (mC (.str "PL")))]) mNil)))
  (mSeq (mDrop (mMeth isDic fUpdate (mVar 0) (mCons (mDisp false [((mC (.str "upright")), (mC (.str "PL"))), ((mC (.str "circle")), (mC (.str "PP")))]) mNil)))
  (mRet (mVar 0)))))
noncomputable def f__law_forms : MF := callD 1 m__law_forms
noncomputable def m__law_sort : MS := (mSeq (mIfS (mTest (mBin opEq (mVar 0) (mC (.str "circle")))) (mRet (mC (.str "C"))) mNext)
  (mRet (mIf (mTest (mBin opIn (mVar 0) (mTup (mCons (mC (.str "line")) (mCons (mC (.str "along")) (mCons (mC (.str "upright")) mNil)))))) (mC (.str "L")) (mC (.str "P")))))
noncomputable def f__law_sort : MF := callD 1 m__law_sort
noncomputable def m__law_others : MS := (mSeq (mAsg (mLstC mNil) (gN 1))
  (mSeq (mFor (mIter (mVar 0)) (gN 2) (mIfS (mTest (mBin opEq (mBin opIx (mVar 2) (mC (.int 0))) (mC (.str "circle")))) (mFor (mIter (mVar 0)) (gN 3) (mSeq (mAsg (mGet (mDisp false [((mC (.str "line")), (mSl (mVar 3) (mPart (mC (.int 2))) mNoPart)), ((mC (.str "along")), (mSl (mVar 3) (mPart (mC (.int 2))) (mPart (mC (.int 3))))), ((mC (.str "upright")), (mSl (mVar 3) (mPart (mC (.int 2))) (mPart (mC (.int 3)))))]) (mBin opIx (mVar 3) (mC (.int 0))) (mTup mNil)) (gN 4))
  (mIfS (mTest (mBin opIn (mBin opIx (mVar 2) (mC (.int 3))) (mVar 4))) (mDrop (mMeth isLst fAppend (mVar 1) (mCons (mTup (mCons (mBin opIx (mVar 3) (mC (.int 1))) (mCons (mBin opIx (mVar 2) (mC (.int 1))) (mCons (mBin opIx (mVar 2) (mC (.int 3))) mNil)))) mNil))) mNext))) mNext))
  (mRet (mVar 1))))
noncomputable def f__law_others : MF := callD 5 m__law_others
noncomputable def m__law_next : MS := (mSeq (mAsg (mCall 2 f__law_pick (mCons (mVar 0) (mCons (mVar 3) mNil))) (gN 4))
  (mSeq (mAsg (mCall 2 f__law_draw (mCons (mVar 0) (mCons (mC (.int 6)) mNil))) (gN 5))
  (mSeq (mAsg (mDisp false [((mC (.str "P")), (mLstC mNil)), ((mC (.str "L")), (mLstC mNil)), ((mC (.str "C")), (mLstC mNil))]) (gN 6))
  (mSeq (mFor (mIter (mVar 1)) (gN 7) (mDrop (mMeth isLst fAppend (mBin opIx (mVar 6) (mCall 1 f__law_sort (mCons (mBin opIx (mVar 7) (mC (.int 0))) mNil))) (mCons (mBin opIx (mVar 7) (mC (.int 1))) mNil))))
  (mSeq (mIfS (mTest (mBin opEq (mVar 4) (mC (.str "other")))) (mSeq (mAsg (mCall 1 f__law_others (mCons (mVar 1) mNil)) (gN 10))
  (mRet (mIf (mTest (mBin opNe (mVar 10) (mLst mNil))) (mBin opAdd (mTup (mCons (mC (.str "other")) (mCons (mVar 2) mNil))) (mBin opIx (mVar 10) (mBin opMod (mVar 5) (mCB fLen (mCons (mVar 10) mNil))))) (mTup (mCons (mC (.str "free")) (mCons (mVar 2) mNil)))))) mNext)
  (mSeq (mAsg (mTup (mCons (mVar 4) (mCons (mVar 2) mNil))) (gN 8))
  (mSeq (mFor (mIter (mBin opIx (mCall 0 f__law_forms mNil) (mVar 4))) (gN 9) (mIfS (mTest (mBin opEq (mVar 9) (mC (.str "n")))) (mAsg (mBin opAdd (mVar 8) (mTup (mCons (mBin opAdd (mC (.int 1)) (mBin opMod (mVar 5) (mC (.int 3)))) mNil))) (gN 8)) (mIfS (mTest (mBin opEq (mVar 9) (mC (.str "k")))) (mAsg (mBin opAdd (mVar 8) (mTup (mCons (mBin opMod (mVar 5) (mC (.int 2))) mNil))) (gN 8)) (mIfS (mTest (mBin opEq (mBin opIx (mVar 6) (mVar 9)) (mLst mNil))) (mRet (mTup (mCons (mC (.str "free")) (mCons (mVar 2) mNil)))) (mAsg (mBin opAdd (mVar 8) (mTup (mCons (mMeth isLst fPopAt (mBin opIx (mVar 6) (mVar 9)) (mCons (mCall 2 f__law_draw (mCons (mVar 0) (mCons (mCB fLen (mCons (mBin opIx (mVar 6) (mVar 9)) mNil)) mNil))) mNil)) mNil))) (gN 8))))))
  (mRet (mVar 8)))))))))
noncomputable def f__law_next : MF := callD 11 m__law_next
noncomputable def m__law_words : MS := (mSeq (mAsg (mLst (mCons (mC (.str "free")) (mCons (mC (.str "on")) (mCons (mC (.str "round")) (mCons (mC (.str "meet")) (mCons (mC (.str "middle")) (mCons (mC (.str "foot")) (mCons (mC (.str "mirror")) (mCons (mC (.str "turn")) (mCons (mC (.str "other")) (mCons (mC (.str "line")) (mCons (mC (.str "line")) (mCons (mC (.str "along")) mNil))))))))))))) (gN 1))
  (mRet (mBin opAdd (mBin opAdd (mVar 1) (mLst (mCons (mC (.str "upright")) (mCons (mC (.str "circle")) (mCons (mC (.str "circle")) (mCons (mC (.str "meet")) mNil)))))) (mBin opMul (mLst (mCons (mC (.str "cross")) mNil)) (mCB fInt1 (mCons (mVar 0) mNil))))))
noncomputable def f__law_words : MF := callD 2 m__law_words
noncomputable def m__law_sketch : MS := (mSeq (mAsg (mLstC (mCons (mTup (mCons (mC (.str "free")) (mCons (mBin opIx (mVar 1) (mC (.int 0))) mNil))) (mCons (mTup (mCons (mC (.str "free")) (mCons (mBin opIx (mVar 1) (mC (.int 1))) mNil))) (mCons (mTup (mCons (mC (.str "line")) (mCons (mBin opIx (mVar 1) (mC (.int 2))) (mCons (mBin opIx (mVar 1) (mC (.int 0))) (mCons (mBin opIx (mVar 1) (mC (.int 1))) mNil))))) mNil)))) (gN 4))
  (mSeq (mIfS (mTest (mBin opEq (mCall 2 f__law_draw (mCons (mVar 0) (mCons (mC (.int 2)) mNil))) (mC (.int 1)))) (mSetItem (mTup (mCons (mC (.str "circle")) (mCons (mBin opIx (mVar 1) (mC (.int 2))) (mCons (mBin opIx (mVar 1) (mC (.int 1))) (mCons (mBin opIx (mVar 1) (mC (.int 0))) mNil))))) (mVar 4) (mC (.int 2))) mNext)
  (mSeq (mFor (mRng rng2 (mCons (mC (.int 3)) (mCons (mCB fMax2 (mCons (mC (.int 3)) (mCons (mVar 2) mNil))) mNil))) (gN 5) (mDrop (mMeth isLst fAppend (mVar 4) (mCons (mCall 4 f__law_next (mCons (mVar 0) (mCons (mVar 4) (mCons (mBin opIx (mVar 1) (mVar 5)) (mCons (mVar 3) mNil))))) mNil))))
  (mRet (mCB fTuple (mCons (mSl (mVar 4) mNoPart (mPart (mVar 2))) mNil))))))
noncomputable def f__law_sketch : MF := callD 6 m__law_sketch
end Sk

namespace Sk
open PySem PySem.Spec PyProof.Rows L2 Ly
theorem draw_ok {b : Nat} {T M : Mem} {m : Int} {Q : D → Mem → Prop} (h : DkIs b T M) (hb : b ≤ 1000000) (hm : 0 < m) (hm2 : m < 1073741824) (q : ∀ r M', 0 ≤ r → r < m → DkIs (b + 1) T M' → Q (.int r) M') : Go (f__law_draw [.ref 1, .int m] M) Q := by
  have h0 := h
  obtain ⟨xs, s, c, rfl, xl, s0, s1, c0, c1⟩ := h
  have mn : m ≠ 0 := by omega
  have fin : ∀ (xs' : List Int) (r : Int), xs'.length ≤ 99 → 0 ≤ r → r < m → Go (finish (dk xs s c T) (.int r) (dk xs' s (c + 1) T)) Q := fun xs' r rl r0 r1 =>
    go_fin_dk0 (b' := b + 1) h0 ⟨xs', s, c + 1, rfl, rl, s0, s1, by omega, by omega⟩ (frz_low rfl) fun M2 h2 => q r M2 r0 r1 h2
  have tail : ∀ (xs' : List Int) (cell : Int), xs'.length ≤ 99 → GoS ((mSeq (mAsg (mBin opAdd (mBin opAdd (mBin opMod (mVar 2) (mC (.int 2147483629))) (mBin opMul (mBin opMul (mC (.int 130363)) (mBin opIx (mVar 0) (mC (.int 2)))) (mBin opIx (mVar 0) (mC (.int 2))))) (mBin opIx (mVar 0) (mC (.int 1)))) (gN 3))
      (mSeq (mAsg (mBin opMod (mBin opAdd (mBin opMul (mVar 3) (mC (.int 48271))) (mBin opMul (mC (.int 40692)) (mBin opIx (mVar 0) (mC (.int 2))))) (mC (.int 2147483563))) (gN 3))
      (mSeq (mAsg (mBin opMod (mBin opAdd (mBin opMul (mVar 3) (mVar 3)) (mC (.int 31))) (mC (.int 2147483587))) (gN 3))
      (mRet (mBin opMod (mBin opFdiv (mBin opMod (mBin opMul (mVar 3) (mC (.int 16807))) (mC (.int 2147483647))) (mC (.int 64))) (mVar 1)))))) [some (.ref 1), some (.int m), some (.int cell), none] (dk xs' s (c + 1) T)) (fun _ M' => Go (finish (dk xs s c T) .non M') Q) fun d M' => Go (finish (dk xs s c T) d M') Q := by
    intro xs' cell xl'
    have e1 : (dk xs' s (c + 1) T)[1]? = some (.lst [.ref 0, .int s, .int (c + 1)]) := rfl
    have a2 : atI [D.ref 0, .int s, .int (c + 1)] 2 = some (.int (c + 1)) := rfl
    have a1 : atI [D.ref 0, .int s, .int (c + 1)] 1 = some (.int s) := rfl
    simp only [go_seq, go_setItem, go_bin, go_un, go_var, go_c, go_test, go_andT, go_orT, go_notT, go_yes, go_andV, go_if, go_nil, go_cons, go_tup, go_lst, go_lstC, go_cb, go_call, go_callW, go_meth, go_noPart, go_part, go_sl, go_get, go_next, go_drop, go_ret, go_retN, go_ifS, go_set, go_for, go_lc, go_dc, go_iter, go_enum, go_rng, go_rng1, go_rng2, go_rng3, go_disp, go_pnil, go_pcons, go_bdT, go_bdF, go_ok, go_nx, go_rt, go_addI, go_addS, go_addT, go_addL, go_subI, go_mulI, go_mulL, go_modI, go_fdivI, go_powI, go_ltI, go_leI, go_gtI, go_geI, go_eqI, go_eqS, go_neI, go_neS, go_ixF, go_ixT, go_ixS, go_ixD, go_slT, go_slF, go_slR, go_slS, go_revF, go_revCF, go_revAT, go_revAL, List.getElem?_cons_zero, List.getElem?_cons_succ, List.set_cons_zero, List.set_cons_succ, List.length_cons, List.length_nil, D.int.injEq, D.bl.injEq, D.str.injEq, Option.some.injEq, exists_eq_left', go_listF, go_listT, go_tupleF, go_tupleT, go_lenF, go_lenT, go_lenS, go_isiS, go_isiI, go_intI, go_intB, go_maxI, it_lst, it_tupD, it_strD, en_lst, en_tup, fr_gN, wipeD, go_inTab, go_notInTab, go_tab, go_lc2, go_par2, go_par3, go_ixL e1, a1, a2, Option.some.injEq, exists_eq_left']
    generalize hn0 : cell.fmod 2147483629 = n0
    have n0a : 0 ≤ n0 := by rw [← hn0]; exact Int.fmod_nonneg_of_pos _ (by decide)
    have n0b : n0 < 2147483629 := by rw [← hn0]; exact Int.fmod_lt_of_pos _ (by decide)
    have cc : 0 ≤ (c + 1) * (c + 1) ∧ (c + 1) * (c + 1) ≤ 1000001 * 1000001 := ⟨Int.mul_nonneg (by omega) (by omega), Int.mul_le_mul (by omega) (by omega) (by omega) (by decide)⟩
    have c3 : 130363 * (c + 1) * (c + 1) = 130363 * ((c + 1) * (c + 1)) := Int.mul_assoc _ _ _
    rw [c3]
    generalize hn1 : n0 + 130363 * ((c + 1) * (c + 1)) + s = n1
    have n1a : 0 ≤ n1 ∧ n1 < 2 ^ 70 := by omega
    generalize hn2 : (n1 * 48271 + 40692 * (c + 1)).fmod 2147483563 = n2
    have n2a : 0 ≤ n2 := by rw [← hn2]; exact Int.fmod_nonneg_of_pos _ (by decide)
    have n2b : n2 < 2147483563 := by rw [← hn2]; exact Int.fmod_lt_of_pos _ (by decide)
    generalize hn3 : (n2 * n2 + 31).fmod 2147483587 = n3
    have n3a : 0 ≤ n3 := by rw [← hn3]; exact Int.fmod_nonneg_of_pos _ (by decide)
    have n3b : n3 < 2147483587 := by rw [← hn3]; exact Int.fmod_lt_of_pos _ (by decide)
    refine ⟨by decide, cmulW (by omega) (by omega), cmulW (by omega) (by omega), cmulW (by omega) (by omega), cmulW (by omega) (by omega), by decide, cmulW (by omega) (by omega), by decide, cmulW (by omega) (by omega), by decide, ⟨by decide, by decide⟩, mn, ?_⟩
    exact fin _ _ xl' (Int.fmod_nonneg_of_pos _ hm) (Int.fmod_lt_of_pos _ hm)
  rw [f__law_draw, go_callD, show startD 4 [D.ref 1, .int m] = [some (.ref 1), some (.int m), none, none] from rfl, m__law_draw]
  have e0 : (dk xs s c T)[1]? = some (.lst [.ref 0, .int s, .int c]) := rfl
  have e1 : (dk xs s (c + 1) T)[1]? = some (.lst [.ref 0, .int s, .int (c + 1)]) := rfl
  have z2 : atI [D.ref 0, .int s, .int c] 2 = some (.int c) := rfl
  have a2 : atI [D.ref 0, .int s, .int (c + 1)] 2 = some (.int (c + 1)) := rfl
  have a1 : atI [D.ref 0, .int s, .int (c + 1)] 1 = some (.int s) := rfl
  have a0 : atI [D.ref 0, .int s, .int (c + 1)] 0 = some (.ref 0) := rfl
  have w : setM (dk xs s c T) (.ref 1) (.int 2) (.int (c + 1)) = some (dk xs s (c + 1) T) := rfl
  have x0 : (dk xs s (c + 1) T)[0]? = some (.lst (xs.map .int)) := rfl
  rw [go_seq, go_setItem]
  simp only [go_bin, go_c, go_var, go_ixL e0, z2, Option.some.injEq, exists_eq_left', go_addI, List.getElem?_cons_zero, w]
  rw [go_seq, go_set]
  simp only [go_bin, go_c, go_var, go_ixL e1, a1, Option.some.injEq, exists_eq_left', List.getElem?_cons_zero, List.set_cons_succ, List.set_cons_zero]
  rw [go_seq, go_ifS]
  simp only [go_test, go_bin, go_c, go_var, go_ixL e1, a0, Option.some.injEq, exists_eq_left', List.getElem?_cons_zero, go_lst, go_nil, go_neE x0, D.bl.injEq, List.length_nil]
  refine ⟨by decide, ?_⟩
  rcases List.eq_nil_or_concat xs with rfl | ⟨ys, l, e⟩
  · rw [if_neg (by decide), go_next]
    exact tail [] s (by decide)
  · rw [List.concat_eq_append] at e
    subst e
    rw [if_pos (by simp)]
    have yl : ys.length ≤ 98 := by
      rw [List.length_append, List.length_singleton] at xl
      omega
    have y0 : (dk (ys ++ [l]) s (c + 1) T)[0]? = some (.lst (ys.map .int ++ [.int l])) := by
      rw [x0, List.map_append]
      rfl
    have pl : (ys.map D.int ++ [D.int l])[(ys.map D.int ++ [D.int l]).length - 1]? = some (.int l) := by simp
    have w2 : (dk (ys ++ [l]) s (c + 1) T).set 0 (.lst (ys.map D.int ++ [D.int l]).dropLast) = dk ys s (c + 1) T := by
      rw [List.dropLast_concat]
      rfl
    have f1 : (dk ys s (c + 1) T)[1]? = some (.lst [.ref 0, .int s, .int (c + 1)]) := rfl
    have f0 : (dk ys s (c + 1) T)[0]? = some (.lst (ys.map .int)) := rfl
    have w3 : (dk ys s (c + 1) T).set 0 (.lst (ys.map D.int ++ [.int (l.fdiv m)])) = dk (ys ++ [l.fdiv m]) s (c + 1) T := by
      show _ :: _ = _ :: _
      rw [List.map_append]
      rfl
    rw [go_seq, go_set]
    simp only [go_meth, go_bin, go_c, go_var, go_ixL e1, a0, Option.some.injEq, exists_eq_left', List.getElem?_cons_zero, List.getElem?_cons_succ, go_nil, isLst_ref y0, go_pop y0, pl, w2, true_and, List.set_cons_succ, List.set_cons_zero]
    rw [go_ifS]
    simp only [go_test, go_bin, go_c, go_var, List.getElem?_cons_zero, List.getElem?_cons_succ, go_powI, go_geI]
    refine ⟨⟨by decide, by decide, by decide⟩, _, rfl, ?_⟩
    split
    · rw [go_seq, go_drop]
      simp only [go_meth, go_bin, go_c, go_var, go_ixL f1, a0, Option.some.injEq, exists_eq_left', List.getElem?_cons_zero, List.getElem?_cons_succ, go_nil, go_cons, isLst_ref f0, true_and, go_fdivI, go_append f0, w3, go_ret, go_modI]
      refine ⟨⟨mn, by omega⟩, ?_, mn, ?_⟩
      · rw [List.length_map]
        omega
      · exact fin _ _ (by rw [List.length_append, List.length_singleton]; omega) (Int.fmod_nonneg_of_pos _ hm) (Int.fmod_lt_of_pos _ hm)
    · rw [go_next]
      exact tail ys l (by omega)
theorem cut_ints (ns : List Int) (lo hi : Option Int) : ∃ xs : List Int, cutD (ns.map .int) lo hi = xs.map .int ∧ xs.length ≤ ns.length := by
  refine ⟨(ns.drop (HT.sIx (ns.map D.int).length 0 lo)).take (HT.sIx (ns.map D.int).length (ns.map D.int).length hi - HT.sIx (ns.map D.int).length 0 lo), ?_, ?_⟩
  · unfold Ly.cutD
    rw [List.map_take, List.map_drop]
  · rw [List.length_take, List.length_drop]
    omega
theorem deck_ok {ns : List Int} (hn : ns.length ≤ 63) {Q : D → Mem → Prop} (q : ∀ M, DkIs 0 [] M → Q (.ref 1) M) : Go (f__law_deck [scriptD ns] []) Q := by
  obtain ⟨xs, hx, xl⟩ := cut_ints ns none (some 63)
  rw [f__law_deck, go_callK, show startD 4 [scriptD ns] = [some (.scr (ns.map .int)), none, none, none] from rfl, m__law_deck]
  simp only [go_seq, go_setItem, go_bin, go_un, go_var, go_c, go_test, go_andT, go_orT, go_notT, go_yes, go_andV, go_if, go_nil, go_cons, go_tup, go_lst, go_lstC, go_cb, go_call, go_callW, go_meth, go_noPart, go_part, go_sl, go_get, go_next, go_drop, go_ret, go_retN, go_ifS, go_set, go_for, go_lc, go_dc, go_iter, go_enum, go_rng, go_rng1, go_rng2, go_rng3, go_disp, go_pnil, go_pcons, go_bdT, go_bdF, go_ok, go_nx, go_rt, go_addI, go_addS, go_addT, go_addL, go_subI, go_mulI, go_mulL, go_modI, go_fdivI, go_powI, go_ltI, go_leI, go_gtI, go_geI, go_eqI, go_eqS, go_neI, go_neS, go_ixF, go_ixT, go_ixS, go_ixD, go_slT, go_slF, go_slR, go_slS, go_revF, go_revCF, go_revAT, go_revAL, List.getElem?_cons_zero, List.getElem?_cons_succ, List.set_cons_zero, List.set_cons_succ, List.length_cons, List.length_nil, D.int.injEq, D.bl.injEq, D.str.injEq, Option.some.injEq, exists_eq_left', go_listF, go_listT, go_tupleF, go_tupleT, go_lenF, go_lenT, go_lenS, go_isiS, go_isiI, go_intI, go_intB, go_maxI, it_lst, it_tupD, it_strD, en_lst, en_tup, fr_gN, wipeD, go_inTab, go_notInTab, go_tab, go_lc2, go_par2, go_par3, hx]
  refine go_loop (fun ds env M => M = [] ∧ (∃ ys : List Int, ds = ys.map .int) ∧ ∃ s x, env = [some (.scr (ns.map .int)), some (.lst (xs.map .int)), some (.int s), x] ∧ 0 ≤ s ∧ s < 2147483629) ?_ ?_ _ _ _ ⟨rfl, ⟨xs, rfl⟩, _, _, rfl, by decide, by decide⟩
  · rintro d ds env M ⟨rfl, ⟨ys, e⟩, s, x, rfl, s0, s1⟩
    refine ⟨trivial, _, rfl, ?_⟩
    cases ys with
    | nil => cases e
    | cons y ys =>
      cases e
      simp only [go_seq, go_setItem, go_bin, go_un, go_var, go_c, go_test, go_andT, go_orT, go_notT, go_yes, go_andV, go_if, go_nil, go_cons, go_tup, go_lst, go_lstC, go_cb, go_call, go_callW, go_meth, go_noPart, go_part, go_sl, go_get, go_next, go_drop, go_ret, go_retN, go_ifS, go_set, go_for, go_lc, go_dc, go_iter, go_enum, go_rng, go_rng1, go_rng2, go_rng3, go_disp, go_pnil, go_pcons, go_bdT, go_bdF, go_ok, go_nx, go_rt, go_addI, go_addS, go_addT, go_addL, go_subI, go_mulI, go_mulL, go_modI, go_fdivI, go_powI, go_ltI, go_leI, go_gtI, go_geI, go_eqI, go_eqS, go_neI, go_neS, go_ixF, go_ixT, go_ixS, go_ixD, go_slT, go_slF, go_slR, go_slS, go_revF, go_revCF, go_revAT, go_revAL, List.getElem?_cons_zero, List.getElem?_cons_succ, List.set_cons_zero, List.set_cons_succ, List.length_cons, List.length_nil, D.int.injEq, D.bl.injEq, D.str.injEq, Option.some.injEq, exists_eq_left', go_listF, go_listT, go_tupleF, go_tupleT, go_lenF, go_lenT, go_lenS, go_isiS, go_isiI, go_intI, go_intB, go_maxI, it_lst, it_tupD, it_strD, en_lst, en_tup, fr_gN, wipeD, go_inTab, go_notInTab, go_tab, go_lc2, go_par2, go_par3]
      refine ⟨cmulW (by omega) (by decide), by decide, by decide, trivial, ⟨ys, rfl⟩, _, _, rfl, Int.fmod_nonneg_of_pos _ (by decide), Int.fmod_lt_of_pos _ (by decide)⟩
  · rintro env M ⟨rfl, _, s, x, rfl, s0, s1⟩
    refine ⟨trivial, ?_⟩
    simp only [go_seq, go_setItem, go_bin, go_un, go_var, go_c, go_test, go_andT, go_orT, go_notT, go_yes, go_andV, go_if, go_nil, go_cons, go_tup, go_lst, go_lstC, go_cb, go_call, go_callW, go_meth, go_noPart, go_part, go_sl, go_get, go_next, go_drop, go_ret, go_retN, go_ifS, go_set, go_for, go_lc, go_dc, go_iter, go_enum, go_rng, go_rng1, go_rng2, go_rng3, go_disp, go_pnil, go_pcons, go_bdT, go_bdF, go_ok, go_nx, go_rt, go_addI, go_addS, go_addT, go_addL, go_subI, go_mulI, go_mulL, go_modI, go_fdivI, go_powI, go_ltI, go_leI, go_gtI, go_geI, go_eqI, go_eqS, go_neI, go_neS, go_ixF, go_ixT, go_ixS, go_ixD, go_slT, go_slF, go_slR, go_slS, go_revF, go_revCF, go_revAT, go_revAL, List.getElem?_cons_zero, List.getElem?_cons_succ, List.set_cons_zero, List.set_cons_succ, List.length_cons, List.length_nil, D.int.injEq, D.bl.injEq, D.str.injEq, Option.some.injEq, exists_eq_left', go_listF, go_listT, go_tupleF, go_tupleT, go_lenF, go_lenT, go_lenS, go_isiS, go_isiI, go_intI, go_intB, go_maxI, it_lst, it_tupD, it_strD, en_lst, en_tup, fr_gN, wipeD, go_inTab, go_notInTab, go_tab, go_lc2, go_par2, go_par3]
    refine ⟨by decide, q _ ⟨xs.reverse, s, 0, ?_, by rw [List.length_reverse]; omega, s0, by omega, by decide, by decide⟩⟩
    rw [← List.map_reverse]
    rfl
theorem pick_ok {b : Nat} {T M : Mem} {xs : List Str} {Q : D → Mem → Prop} (h : DkIs b T M) (hb : b ≤ 1000000) (hx : 0 < xs.length) (hl : xs.length ≤ 1000) (q : ∀ x M', x ∈ xs → DkIs (b + 1) T M' → Q (.str x) M') : Go (f__law_pick [.ref 1, .lst (xs.map .str)] M) Q := by
  rw [f__law_pick, go_callD, show startD 2 [D.ref 1, .lst (xs.map .str)] = [some (.ref 1), some (.lst (xs.map .str))] from rfl, m__law_pick]
  simp only [go_seq, go_setItem, go_bin, go_un, go_var, go_c, go_test, go_andT, go_orT, go_notT, go_yes, go_andV, go_if, go_nil, go_cons, go_tup, go_lst, go_lstC, go_cb, go_call, go_callW, go_meth, go_noPart, go_part, go_sl, go_get, go_next, go_drop, go_ret, go_retN, go_ifS, go_set, go_for, go_lc, go_dc, go_iter, go_enum, go_rng, go_rng1, go_rng2, go_rng3, go_disp, go_pnil, go_pcons, go_bdT, go_bdF, go_ok, go_nx, go_rt, go_addI, go_addS, go_addT, go_addL, go_subI, go_mulI, go_mulL, go_modI, go_fdivI, go_powI, go_ltI, go_leI, go_gtI, go_geI, go_eqI, go_eqS, go_neI, go_neS, go_ixF, go_ixT, go_ixS, go_ixD, go_slT, go_slF, go_slR, go_slS, go_revF, go_revCF, go_revAT, go_revAL, List.getElem?_cons_zero, List.getElem?_cons_succ, List.set_cons_zero, List.set_cons_succ, List.length_cons, List.length_nil, D.int.injEq, D.bl.injEq, D.str.injEq, Option.some.injEq, exists_eq_left', go_listF, go_listT, go_tupleF, go_tupleT, go_lenF, go_lenT, go_lenS, go_isiS, go_isiI, go_intI, go_intB, go_maxI, it_lst, it_tupD, it_strD, en_lst, en_tup, fr_gN, wipeD, go_inTab, go_notInTab, go_tab, go_lc2, go_par2, go_par3, true_and]
  refine draw_ok h hb (by rw [List.length_map]; omega) (by rw [List.length_map]; omega) fun r M1 r0 r1 h1 => ?_
  rw [List.length_map] at r1
  simp only [go_seq, go_setItem, go_bin, go_un, go_var, go_c, go_test, go_andT, go_orT, go_notT, go_yes, go_andV, go_if, go_nil, go_cons, go_tup, go_lst, go_lstC, go_cb, go_call, go_callW, go_meth, go_noPart, go_part, go_sl, go_get, go_next, go_drop, go_ret, go_retN, go_ifS, go_set, go_for, go_lc, go_dc, go_iter, go_enum, go_rng, go_rng1, go_rng2, go_rng3, go_disp, go_pnil, go_pcons, go_bdT, go_bdF, go_ok, go_nx, go_rt, go_addI, go_addS, go_addT, go_addL, go_subI, go_mulI, go_mulL, go_modI, go_fdivI, go_powI, go_ltI, go_leI, go_gtI, go_geI, go_eqI, go_eqS, go_neI, go_neS, go_ixF, go_ixT, go_ixS, go_ixD, go_slT, go_slF, go_slR, go_slS, go_revF, go_revCF, go_revAT, go_revAL, List.getElem?_cons_zero, List.getElem?_cons_succ, List.set_cons_zero, List.set_cons_succ, List.length_cons, List.length_nil, D.int.injEq, D.bl.injEq, D.str.injEq, Option.some.injEq, exists_eq_left', go_listF, go_listT, go_tupleF, go_tupleT, go_lenF, go_lenT, go_lenS, go_isiS, go_isiI, go_intI, go_intB, go_maxI, it_lst, it_tupD, it_strD, en_lst, en_tup, fr_gN, wipeD, go_inTab, go_notInTab, go_tab, go_lc2, go_par2, go_par3]
  obtain ⟨a, ha, ha2⟩ := atI_of (xs := xs.map D.str) r0 (by rw [List.length_map]; exact r1)
  rw [List.getElem?_map] at ha
  obtain ⟨x, hx1, rfl⟩ := Option.map_eq_some_iff.mp ha
  exact ⟨_, ha2, go_fin_dk0 h h1 (frz_low rfl) fun M2 h2 => q x M2 (List.mem_of_getElem? hx1) h2⟩
def wordsB (b : Bool) : List Str := (["free", "on", "round", "meet", "middle", "foot", "mirror", "turn", "other", "line", "line", "along", "upright", "circle", "circle", "meet"] : List Str) ++ (if b then (["cross"] : List Str) else [])
theorem words_ok {M : Mem} {b : Bool} {Q : D → Mem → Prop} (q : Q (.lst ((wordsB b).map .str)) M) : Go (f__law_words [.bl b] M) Q := by
  rw [f__law_words, go_callD, show startD 2 [D.bl b] = [some (.bl b), none] from rfl, m__law_words]
  simp only [go_seq, go_setItem, go_bin, go_un, go_var, go_c, go_test, go_andT, go_orT, go_notT, go_yes, go_andV, go_if, go_nil, go_cons, go_tup, go_lst, go_lstC, go_cb, go_call, go_callW, go_meth, go_noPart, go_part, go_sl, go_get, go_next, go_drop, go_ret, go_retN, go_ifS, go_set, go_for, go_lc, go_dc, go_iter, go_enum, go_rng, go_rng1, go_rng2, go_rng3, go_disp, go_pnil, go_pcons, go_bdT, go_bdF, go_ok, go_nx, go_rt, go_addI, go_addS, go_addT, go_addL, go_subI, go_mulI, go_mulL, go_modI, go_fdivI, go_powI, go_ltI, go_leI, go_gtI, go_geI, go_eqI, go_eqS, go_neI, go_neS, go_ixF, go_ixT, go_ixS, go_ixD, go_slT, go_slF, go_slR, go_slS, go_revF, go_revCF, go_revAT, go_revAL, List.getElem?_cons_zero, List.getElem?_cons_succ, List.set_cons_zero, List.set_cons_succ, List.length_cons, List.length_nil, D.int.injEq, D.bl.injEq, D.str.injEq, Option.some.injEq, exists_eq_left', go_listF, go_listT, go_tupleF, go_tupleT, go_lenF, go_lenT, go_lenS, go_isiS, go_isiI, go_intI, go_intB, go_maxI, it_lst, it_tupD, it_strD, en_lst, en_tup, fr_gN, wipeD, go_inTab, go_notInTab, go_tab, go_lc2, go_par2, go_par3]
  cases b with
  | true =>
    refine ⟨by decide, by decide, by decide, by decide, ⟨by decide, by decide, by decide⟩, by decide, ?_⟩
    exact go_fin_same (frz_low rfl) q
  | false =>
    refine ⟨by decide, by decide, by decide, by decide, ⟨by decide, by decide, by decide⟩, by decide, ?_⟩
    exact go_fin_same (frz_low rfl) q
def sortS (w : Str) : Str := if w = "circle" then "C" else if w ∈ (["line", "along", "upright"] : List Str) then "L" else "P"
theorem sort_ok {M : Mem} {w : Str} {Q : D → Mem → Prop} (q : Q (.str (sortS w)) M) : Go (f__law_sort [.str w] M) Q := by
  rw [f__law_sort, go_callD, show startD 1 [D.str w] = [some (.str w)] from rfl, m__law_sort]
  simp only [go_seq, go_setItem, go_bin, go_un, go_var, go_c, go_test, go_andT, go_orT, go_notT, go_yes, go_andV, go_if, go_nil, go_cons, go_tup, go_lst, go_lstC, go_cb, go_call, go_callW, go_meth, go_noPart, go_part, go_sl, go_get, go_next, go_drop, go_ret, go_retN, go_ifS, go_set, go_for, go_lc, go_dc, go_iter, go_enum, go_rng, go_rng1, go_rng2, go_rng3, go_disp, go_pnil, go_pcons, go_bdT, go_bdF, go_ok, go_nx, go_rt, go_addI, go_addS, go_addT, go_addL, go_subI, go_mulI, go_mulL, go_modI, go_fdivI, go_powI, go_ltI, go_leI, go_gtI, go_geI, go_eqI, go_eqS, go_neI, go_neS, go_ixF, go_ixT, go_ixS, go_ixD, go_slT, go_slF, go_slR, go_slS, go_revF, go_revCF, go_revAT, go_revAL, List.getElem?_cons_zero, List.getElem?_cons_succ, List.set_cons_zero, List.set_cons_succ, List.length_cons, List.length_nil, D.int.injEq, D.bl.injEq, D.str.injEq, Option.some.injEq, exists_eq_left', go_listF, go_listT, go_tupleF, go_tupleT, go_lenF, go_lenT, go_lenS, go_isiS, go_isiI, go_intI, go_intB, go_maxI, it_lst, it_tupD, it_strD, en_lst, en_tup, fr_gN, wipeD, go_inTab, go_notInTab, go_tab, go_lc2, go_par2, go_par3]
  unfold sortS at q
  split
  · next h =>
    rw [if_pos (of_decide_eq_true h)] at q
    exact go_fin_same (frz_low rfl) q
  · next h =>
    rw [if_neg (by simpa using h)] at q
    simp only [go_seq, go_setItem, go_bin, go_un, go_var, go_c, go_test, go_andT, go_orT, go_notT, go_yes, go_andV, go_if, go_nil, go_cons, go_tup, go_lst, go_lstC, go_cb, go_call, go_callW, go_meth, go_noPart, go_part, go_sl, go_get, go_next, go_drop, go_ret, go_retN, go_ifS, go_set, go_for, go_lc, go_dc, go_iter, go_enum, go_rng, go_rng1, go_rng2, go_rng3, go_disp, go_pnil, go_pcons, go_bdT, go_bdF, go_ok, go_nx, go_rt, go_addI, go_addS, go_addT, go_addL, go_subI, go_mulI, go_mulL, go_modI, go_fdivI, go_powI, go_ltI, go_leI, go_gtI, go_geI, go_eqI, go_eqS, go_neI, go_neS, go_ixF, go_ixT, go_ixS, go_ixD, go_slT, go_slF, go_slR, go_slS, go_revF, go_revCF, go_revAT, go_revAL, List.getElem?_cons_zero, List.getElem?_cons_succ, List.set_cons_zero, List.set_cons_succ, List.length_cons, List.length_nil, D.int.injEq, D.bl.injEq, D.str.injEq, Option.some.injEq, exists_eq_left', go_listF, go_listT, go_tupleF, go_tupleT, go_lenF, go_lenT, go_lenS, go_isiS, go_isiI, go_intI, go_intB, go_maxI, it_lst, it_tupD, it_strD, en_lst, en_tup, fr_gN, wipeD, go_inTab, go_notInTab, go_tab, go_lc2, go_par2, go_par3, go_in]
    refine ⟨by decide, _, in_tup (ys := ["line", "along", "upright"]), ?_⟩
    split
    · next h2 =>
      rw [if_pos (of_decide_eq_true h2)] at q
      exact go_fin_same (frz_low rfl) q
    · next h2 =>
      rw [if_neg (by simpa using h2)] at q
      exact go_fin_same (frz_low rfl) q
def kS (x y : Str) : Key × D := (.inr x, .str y)
def formsL : List (Key × D) := [kS "free" "", kS "on" "L", kS "round" "C", kS "meet" "LL", kS "middle" "PP", kS "foot" "PL", kS "mirror" "PL", kS "turn" "PPn", kS "other" "LCP", kS "cross" "LCk", kS "line" "PP", kS "along" "PL", kS "upright" "PL", kS "circle" "PP"]
theorem forms_ok {M : Mem} {Q : D → Mem → Prop} (q : Q (.dic formsL) M) : Go (f__law_forms [] M) Q := by
  rw [f__law_forms, go_callD, show startD 1 [] = [none] from rfl, m__law_forms]
  simp only [go_seq, go_setItem, go_bin, go_un, go_var, go_c, go_test, go_andT, go_orT, go_notT, go_yes, go_andV, go_if, go_nil, go_cons, go_tup, go_lst, go_lstC, go_cb, go_call, go_callW, go_meth, go_noPart, go_part, go_sl, go_get, go_next, go_drop, go_ret, go_retN, go_ifS, go_set, go_for, go_lc, go_dc, go_iter, go_enum, go_rng, go_rng1, go_rng2, go_rng3, go_disp, go_pnil, go_pcons, go_bdT, go_bdF, go_ok, go_nx, go_rt, go_addI, go_addS, go_addT, go_addL, go_subI, go_mulI, go_mulL, go_modI, go_fdivI, go_powI, go_ltI, go_leI, go_gtI, go_geI, go_eqI, go_eqS, go_neI, go_neS, go_ixF, go_ixT, go_ixS, go_ixD, go_slT, go_slF, go_slR, go_slS, go_revF, go_revCF, go_revAT, go_revAL, List.getElem?_cons_zero, List.getElem?_cons_succ, List.set_cons_zero, List.set_cons_succ, List.length_cons, List.length_nil, D.int.injEq, D.bl.injEq, D.str.injEq, Option.some.injEq, exists_eq_left', go_listF, go_listT, go_tupleF, go_tupleT, go_lenF, go_lenT, go_lenS, go_isiS, go_isiI, go_intI, go_intB, go_maxI, it_lst, it_tupD, it_strD, en_lst, en_tup, fr_gN, wipeD, go_inTab, go_notInTab, go_tab, go_lc2, go_par2, go_par3]
  refine ⟨_, rfl, by decide, ?_⟩
  rw [isDic_ref (at_last M _)]
  refine ⟨rfl, _, rfl, by decide, ?_⟩
  rw [go_update (at_last M _), set_last]
  refine ⟨by decide, ?_⟩
  rw [isDic_ref (at_last M _)]
  refine ⟨rfl, _, rfl, by decide, ?_⟩
  rw [go_update (at_last M _), set_last]
  refine ⟨by decide, ?_⟩
  refine go_fin_app (d' := .dic formsL) ?_ q
  have e : mergeD (mergeD (mergeD [] [kS "free" "", kS "on" "L", kS "round" "C", kS "meet" "LL", kS "middle" "PP", kS "foot" "PL", kS "mirror" "PL"]) (mergeD [] [kS "turn" "PPn", kS "other" "LCP", kS "cross" "LCk", kS "line" "PP", kS "along" "PL"])) (mergeD [] [kS "upright" "PL", kS "circle" "PP"]) = formsL := by
    rfl
  refine (frz_dic (at_last M _) ?_).trans ?_
  · exact (congrArg (lowK M.length) e).trans rfl
  · exact congrArg (fun x => some (D.dic x)) e
end Sk

namespace Sk
open PySem PySem.Spec PyProof.Rows L2 Ly
theorem _root_.Ly.Nm.sz' {n : Nat} {x y : Str} (h : Nm n (x ++ y)) (hn : n ≤ 100000) : szOk (x.length + y.length) = true := decide_eq_true (by
  have := h.1
  rw [show (x ++ y).cps = x.cps ++ y.cps from rfl, Array.size_append] at this
  exact Nat.le_trans this hn)
/-- a text of so many small letters -/
structure Az (lo hi : Nat) (x : Str) : Prop where
  lo : lo ≤ x.cps.size
  hi : x.cps.size ≤ hi
  az : ∀ c ∈ x.cps.toList, 97 ≤ c ∧ c ≤ 122
theorem Az.nm {lo hi n : Nat} {x : Str} (h : Az lo hi x) (hn : hi ≤ n) : Nm n x := ⟨Nat.le_trans h.hi hn, fun c hc => by have := h.az c hc; omega⟩
theorem Az.mono {lo hi lo' hi' : Nat} {x : Str} (h : Az lo hi x) (h1 : lo' ≤ lo) (h2 : hi ≤ hi') : Az lo' hi' x := ⟨Nat.le_trans h1 h.lo, Nat.le_trans h.hi h2, h.az⟩
theorem Az.app {a b c d : Nat} {x y : Str} (h : Az a b x) (h' : Az c d y) : Az (a + c) (b + d) (x ++ y) := by
  have e : (x ++ y).cps = x.cps ++ y.cps := rfl
  refine ⟨?_, ?_, fun k hk => ?_⟩
  · rw [e, Array.size_append]; exact Nat.add_le_add h.lo h'.lo
  · rw [e, Array.size_append]; exact Nat.add_le_add h.hi h'.hi
  · rw [e, Array.toList_append] at hk
    rcases List.mem_append.mp hk with z | z
    · exact h.az k z
    · exact h'.az k z
theorem Az.one {c : Nat} (h1 : 97 ≤ c) (h2 : c ≤ 122) : Az 1 1 ⟨#[c]⟩ := ⟨Nat.le_refl _, Nat.le_refl _, fun d hd => by
  have : d = c := by simpa using hd
  omega⟩
theorem cutS_list (x : Str) (lo hi : Option Int) : (cutS x lo hi).cps.toList = (x.cps.toList.drop (HT.sIx x.cps.size 0 lo)).take (HT.sIx x.cps.size x.cps.size hi - HT.sIx x.cps.size 0 lo) := by
  unfold cutS
  rw [List.toList_toArray]
  rfl
theorem Az.to {n : Nat} {x : Str} (h : Az n n x) {k : Nat} (hk : k ≤ n) : Az k k (cutS x none (some (k : Int))) := by
  have hs : x.cps.size = n := Nat.le_antisymm h.hi h.lo
  have e : (cutS x none (some (k : Int))).cps.toList = x.cps.toList.take k := by
    rw [cutS_list, HT.sIx_none, HT.sIx_nat, hs, Nat.min_eq_left hk, List.drop_zero, Nat.sub_zero]
  have l : (cutS x none (some (k : Int))).cps.size = k := by
    rw [← Array.length_toList, e, List.length_take, Array.length_toList, hs, Nat.min_eq_left hk]
  exact ⟨Nat.le_of_eq l.symm, Nat.le_of_eq l, fun c hc => by
    rw [e] at hc
    exact h.az c (List.mem_of_mem_take hc)⟩
theorem Az.from {n : Nat} {x : Str} (h : Az n n x) {k : Nat} (hk : k ≤ n) : Az (n - k) (n - k) (cutS x (some (k : Int)) none) := by
  have hs : x.cps.size = n := Nat.le_antisymm h.hi h.lo
  have e : (cutS x (some (k : Int)) none).cps.toList = x.cps.toList.drop k := by
    rw [cutS_list, HT.sIx_none, HT.sIx_nat, hs, Nat.min_eq_left hk, List.take_of_length_le]
    rw [List.length_drop, Array.length_toList, hs]
    exact Nat.le_refl _
  have l : (cutS x (some (k : Int)) none).cps.size = n - k := by
    rw [← Array.length_toList, e, List.length_drop, Array.length_toList, hs]
  exact ⟨Nat.le_of_eq l.symm, Nat.le_of_eq l, fun c hc => by
    rw [e] at hc
    exact h.az c (List.mem_of_mem_drop hc)⟩
structure NamesOk (xs : List Str) : Prop where
  len : xs.length = 16
  nd : xs.Nodup
  az : ∀ x ∈ xs, Az 1 8 x
theorem NamesOk.nm {xs : List Str} (h : NamesOk xs) : ∀ x ∈ xs, Nm 32 x := fun x hx => (h.az x hx).nm (by decide)
instance (lo hi : Nat) (x : Str) : Decidable (Az lo hi x) := decidable_of_iff (lo ≤ x.cps.size ∧ x.cps.size ≤ hi ∧ ∀ c ∈ x.cps.toList, 97 ≤ c ∧ c ≤ 122) ⟨fun h => ⟨h.1, h.2.1, h.2.2⟩, fun h => ⟨h.lo, h.hi, h.az⟩⟩
def abcS : Str := "abcdefghijklmnopqrstuvwxyz"
theorem abc_at {i : Int} (h0 : 0 ≤ i) (h1 : i < 26) : atI abcS.cps.toList i = some (97 + i.toNat) := by
  have e : abcS.cps.toList = (List.range 26).map (97 + ·) := by decide +kernel
  rw [e]
  obtain ⟨a, h2, h3⟩ := atI_of (xs := (List.range 26).map (97 + ·)) h0 (by simpa using h1)
  rw [h3]
  rw [List.getElem?_map, List.getElem?_range (by omega)] at h2
  exact h2.symm
theorem abc_ix : ∀ c : Nat, c < 26 → Txt.index0 abcS ⟨#[97 + c]⟩ = some c := by decide +kernel
def someL : List Str := ["line", "free", "at", "row", "on", "circle", "meet", "same", "holds", "a", "none", "ring"]
def footL : List Str := ["foot", "p", "turn", "cross"]
def moreL : List Str := ["qa", "qb", "qc", "qd", "qe", "qf", "qg", "qh", "qi", "qj", "qk", "ql", "qm", "qn", "qo", "qp"]
instance (n : Nat) (x : Str) : Decidable (Nm n x) := by unfold Nm; exact inferInstance
theorem way1 : ∀ n : Nat, n < 8 → NamesOk (someL.drop n ++ someL.take n ++ footL) := by
  intro n hn
  have a : ∀ n : Nat, n < 8 → (someL.drop n ++ someL.take n ++ footL).length = 16 ∧ (someL.drop n ++ someL.take n ++ footL).Nodup ∧ ∀ x ∈ someL.drop n ++ someL.take n ++ footL, Az 1 8 x := by decide +kernel
  exact ⟨(a n hn).1, (a n hn).2.1, (a n hn).2.2⟩
def abcN (n k : Nat) : Str := ⟨#[97 + (n + 5 * k) % 26]⟩
theorem way0 : ∀ n : Nat, n < 8 → NamesOk ((List.range 16).map (abcN n)) := by
  intro n hn
  have a : ∀ n : Nat, n < 8 → ((List.range 16).map (abcN n)).length = 16 ∧ ((List.range 16).map (abcN n)).Nodup ∧ ∀ x ∈ (List.range 16).map (abcN n), Az 1 8 x := by decide +kernel
  exact ⟨(a n hn).1, (a n hn).2.1, (a n hn).2.2⟩
/-- found names without doubles, and more of them -/
theorem way2 (fs : List Str) (h1 : fs.Nodup) (h2 : ∀ x ∈ fs, Az 1 8 x) : NamesOk ((fs ++ moreL.filter fun x => !decide (x ∈ fs)).take 16) := by
  have mn : moreL.Nodup := by decide +kernel
  have mm : ∀ x ∈ moreL, Az 1 8 x := by decide +kernel
  refine ⟨?_, ?_, fun x hx => ?_⟩
  · rw [List.length_take, List.length_append]
    have := fill_len moreL fs mn
    have e : moreL.length = 16 := rfl
    omega
  · refine List.Nodup.sublist (List.take_sublist _ _) (List.nodup_append.mpr ⟨h1, mn.filter _, fun x hx y hy => ?_⟩)
    have := (List.mem_filter.mp hy).2
    intro z
    subst z
    simp [hx] at this
  · rcases List.mem_append.mp (List.mem_of_mem_take hx) with z | z
    · exact h2 x z
    · exact mm x (List.mem_filter.mp z).1
theorem go_index {M : Mem} {Q : D → Mem → Prop} {x y : Str} : Go (fIndex (.str x) [.str y] M) Q = ∃ k : Nat, Txt.index0 x y = some k ∧ Q (.int k) M := by
  have e : fIndex (.str x) [.str y] M = (match Txt.index0 x y with
    | some k => .ok (.int (k : Nat)) M
    | none => .bad) := rfl
  rw [e]
  cases Txt.index0 x y <;> simp [Go]
theorem names_ok {b : Nat} {T M : Mem} {Q : D → Mem → Prop} (h : DkIs b T M) (hb : b ≤ 900000) (q : ∀ xs M', NamesOk xs → DkIs (b + 10) T M' → Q (.lst (xs.map .str)) M') : Go (f__law_names [.ref 1] M) Q := by
  rw [f__law_names, go_callD, show startD 11 [D.ref 1] = [some (.ref 1), none, none, none, none, none, none, none, none, none, none] from rfl, m__law_names]
  rw [go_seq, go_set, go_c, go_seq, go_set, go_call]
  simp only [go_cons, go_nil, go_c, go_var, List.set_cons_succ, List.set_cons_zero, List.getElem?_cons_zero]
  refine ⟨rfl, draw_ok h (by omega) (by decide) (by decide) fun way M1 w0 w1 h1 => ?_⟩
  rw [go_seq, go_set, go_call]
  simp only [go_cons, go_nil, go_c, go_var, List.set_cons_succ, List.set_cons_zero, List.getElem?_cons_zero]
  refine ⟨rfl, draw_ok h1 (by omega) (by decide) (by decide) fun at_ M2 a0 a1 h2 => ?_⟩
  rw [go_seq, go_set, go_meth]
  simp only [go_cons, go_nil, go_c, go_var, go_lc, go_rng, go_rng1, wipeD, List.set_cons_succ, List.set_cons_zero, List.getElem?_cons_zero]
  refine ⟨rfl, rngOk_of (by decide) (by decide), ?_⟩
  refine go_comp (fun rem acc M' => ∃ cs : List Nat, acc = cs.map (fun c => .str ⟨#[c]⟩) ∧ cs.length + rem.length = 8 ∧ (∀ c ∈ cs, ∃ k, k < 26 ∧ c = 97 + k) ∧ DkIs (b + 1 + 1 + cs.length) T M') ?_ ?_ _ _ _ ⟨[], rfl, rfl, nofun, h2⟩
  · rintro d rem acc M' ⟨cs, rfl, hl, hc, hd⟩
    rw [List.length_cons] at hl
    refine ⟨trivial, _, rfl, ?_⟩
    rw [go_yes, if_pos rfl]
    simp only [go_bin, go_call, go_cons, go_nil, go_c, go_var, List.set_cons_succ, List.set_cons_zero, List.getElem?_cons_zero, List.getElem?_cons_succ]
    refine ⟨rfl, draw_ok hd (by omega) (by decide) (by decide) fun r M3 r0 r1 h3 => ?_⟩
    rw [go_ixS]
    refine ⟨by decide, _, abc_at r0 r1, by rw [List.length_map]; omega, cs ++ [97 + r.toNat], by rw [List.map_append]; rfl, by rw [List.length_append, List.length_singleton]; omega, fun c hc' => ?_, ?_⟩
    · rcases List.mem_append.mp hc' with z | z
      · exact hc c z
      · exact ⟨r.toNat, by omega, by simpa using z⟩
    · rw [List.length_append, List.length_singleton]
      exact h3
  rintro acc M3 ⟨cs, rfl, hl, hc, h3⟩
  have hl : cs.length = 8 := hl
  rw [hl] at h3
  refine ⟨trivial, go_joinS (by omega) fun word hw => ?_⟩
  have nw : Nm 8 word := ⟨by rw [← Array.length_toList, hw, hl]; exact Nat.le_refl _, fun c h => by
    rw [hw] at h
    obtain ⟨k, h1, rfl⟩ := hc c h
    omega⟩
  have aw : Az 8 8 word := ⟨by rw [← Array.length_toList, hw, hl]; exact Nat.le_refl _, by rw [← Array.length_toList, hw, hl]; exact Nat.le_refl _, fun c h => by
    rw [hw] at h
    obtain ⟨k, h1, rfl⟩ := hc c h
    omega⟩
  obtain ⟨at', rfl⟩ : ∃ n : Nat, at_ = n := ⟨at_.toNat, by omega⟩
  have fin : ∀ xs : List Str, NamesOk xs → Go (finish M (.lst (xs.map .str)) M3) Q := fun xs hx =>
    go_fin_dk0 h h3 (frz_low (low_strs _ _)) fun M2 h2 => q xs M2 hx h2
  rw [go_seq, go_ifS]
  simp only [go_test, go_bin, go_var, go_c, go_eqI, List.getElem?_cons_zero, List.getElem?_cons_succ, D.bl.injEq, exists_eq_left']
  split
  · -- way 0
    rw [go_ret, go_lc]
    simp only [go_rng, go_cons, go_nil, go_c, go_rng1, wipeD, List.set_cons_succ, List.set_cons_zero]
    refine ⟨rngOk_of (by decide) (by decide), ?_⟩
    refine go_compP (fun _ => true) (fun d => match d with | .int k => .str (abcN at' k.toNat) | d => d) trivial _ (by simp) ?_ ?_
    · intro d hd
      obtain ⟨k, hk, rfl⟩ := List.mem_map.mp hd
      have hk : k < 16 := by simpa using hk
      refine ⟨_, rfl, rfl, rfl, fun _ => ?_⟩
      simp only [go_bin, go_c, go_var, List.set_cons_succ, List.set_cons_zero, List.getElem?_cons_zero, List.getElem?_cons_succ, go_mulI, go_addI, go_modI, go_ixS]
      refine ⟨cmulW (by decide) (by omega), by decide, by decide, _, abc_at (Int.fmod_nonneg_of_pos _ (by decide)) (Int.fmod_lt_of_pos _ (by decide)), ?_, trivial⟩
      have e : (((at' : Int) + 5 * (0 + (k : Int))).fmod 26).toNat = (at' + 5 * k) % 26 := by
        rw [show ((at' : Int) + 5 * (0 + (k : Int))) = ((at' + 5 * k : Nat) : Int) by omega, show (26 : Int) = ((26 : Nat) : Int) from rfl, Int.fmod_eq_emod_of_nonneg _ (by decide), ← Int.natCast_emod, Int.toNat_natCast]
      rw [e]
      show _ = D.str (abcN at' ((0 + (k : Int)).toNat))
      rw [show (0 + (k : Int)).toNat = k by omega]
      rfl
    · have e : ((((List.range (Int.toNat 16)).map fun i => D.int (0 + (i : Nat))).filter fun _ => true).map fun d => match d with | .int k => D.str (abcN at' k.toNat) | d => d) = ((List.range 16).map (abcN at')).map D.str := by
        rw [List.filter_eq_self.mpr (fun _ _ => rfl), List.map_map, List.map_map]
        refine List.map_congr_left fun k _ => ?_
        show D.str (abcN at' ((0 + (k : Int)).toNat)) = _
        rw [show (0 + (k : Int)).toNat = k by omega]
        rfl
      rw [e]
      exact fin _ (way0 at' (by omega))
  rw [go_next, go_seq, go_ifS]
  simp only [go_test, go_bin, go_var, go_c, go_eqI, List.getElem?_cons_zero, List.getElem?_cons_succ, D.bl.injEq, exists_eq_left']
  split
  · -- way 1
    simp only [go_seq, go_setItem, go_bin, go_un, go_var, go_c, go_test, go_andT, go_orT, go_notT, go_yes, go_andV, go_if, go_nil, go_cons, go_tup, go_lst, go_lstC, go_cb, go_call, go_callW, go_meth, go_noPart, go_part, go_sl, go_get, go_next, go_drop, go_ret, go_retN, go_ifS, go_set, go_for, go_lc, go_dc, go_iter, go_enum, go_rng, go_rng1, go_rng2, go_rng3, go_disp, go_pnil, go_pcons, go_bdT, go_bdF, go_ok, go_nx, go_rt, go_addI, go_addS, go_addT, go_addL, go_subI, go_mulI, go_mulL, go_modI, go_fdivI, go_powI, go_ltI, go_leI, go_gtI, go_geI, go_eqI, go_eqS, go_neI, go_neS, go_ixF, go_ixT, go_ixS, go_ixD, go_slT, go_slF, go_slR, go_slS, go_revF, go_revCF, go_revAT, go_revAL, List.getElem?_cons_zero, List.getElem?_cons_succ, List.set_cons_zero, List.set_cons_succ, List.length_cons, List.length_nil, D.int.injEq, D.bl.injEq, D.str.injEq, Option.some.injEq, exists_eq_left', go_listF, go_listT, go_tupleF, go_tupleT, go_lenF, go_lenT, go_lenS, go_isiS, go_isiI, go_intI, go_intB, go_maxI, it_lst, it_tupD, it_strD, en_lst, en_tup, fr_gN, wipeD, go_inTab, go_notInTab, go_tab, go_lc2, go_par2, go_par3]
    refine ⟨by decide, ?_⟩
    have c1 : Ly.cutD [D.str "line", D.str "free", D.str "at", D.str "row", D.str "on", D.str "circle", D.str "meet", D.str "same", D.str "holds", D.str "a", D.str "none", D.str "ring"] (some (at' : Int)) none = (someL.drop at').map D.str := by
      rw [List.map_drop]
      exact cut_from (someL.map D.str) at'
    have c2 : Ly.cutD [D.str "line", D.str "free", D.str "at", D.str "row", D.str "on", D.str "circle", D.str "meet", D.str "same", D.str "holds", D.str "a", D.str "none", D.str "ring"] none (some (at' : Int)) = (someL.take at').map D.str := by
      rw [List.map_take]
      exact cut_to (someL.map D.str) at'
    have w := way1 at' (by omega)
    have l1 : (someL.drop at' ++ someL.take at' ++ footL).length = 16 := w.len
    have l2 : (someL.drop at').length + (someL.take at').length ≤ 16 := by
      rw [List.length_append, List.length_append] at l1
      omega
    rw [c1, c2]
    refine ⟨decide_eq_true (by rw [List.length_map, List.length_map]; omega), by decide, decide_eq_true (by rw [List.length_append, List.length_map, List.length_map]; omega), ?_⟩
    have e : (someL.drop at').map D.str ++ (someL.take at').map D.str ++ [D.str "foot", D.str "p", D.str "turn", D.str "cross"] = (someL.drop at' ++ someL.take at' ++ footL).map D.str := by
      rw [List.map_append, List.map_append]
      rfl
    rw [e]
    exact fin _ w
  rw [go_next, go_seq, go_set, go_lstC, go_nil]
  refine ⟨by decide, ?_⟩
  rw [go_seq, go_for]
  simp only [go_rng, go_cons, go_nil, go_c, go_rng1, List.set_cons_succ, List.set_cons_zero]
  refine ⟨rngOk_of (by decide) (by decide), ?_⟩
  refine go_loop (fun rem env M' => ∃ (ks : List Nat) (fs : List Str) (k lt : Option D), rem = ks.map (fun k => .int (0 + (k : Nat))) ∧ (∀ k ∈ ks, k < 16) ∧ fs.length + ks.length = 16 ∧ (∀ x ∈ fs, Az 1 8 x) ∧ M' = M3 ++ [.lst (fs.map .str)] ∧
    env = [some (.ref 1), some (.str abcS), some (.int way), some (.int at'), some (.str word), some (.ref M3.length), k, none, none, lt, none]) ?_ ?_ _ _ _ ⟨List.range 16, [], none, none, rfl, by simp, rfl, nofun, rfl, rfl⟩
  · rintro d rem env M' ⟨ks, fs, k0, lt, e, hk, hn, hf, rfl, rfl⟩
    refine ⟨trivial, _, rfl, ?_⟩
    cases ks with
    | nil => cases e
    | cons k ks =>
      cases e
      have hk0 := hk k List.mem_cons_self
      have hk1 : ∀ k ∈ ks, k < 16 := fun x hx => hk x (List.mem_cons_of_mem _ hx)
      rw [List.length_cons] at hn
      simp only [List.set_cons_succ, List.set_cons_zero]
      have put : ∀ (x : Str) (lt : Option D), Az 1 8 x → ∃ (ks' : List Nat) (fs' : List Str) (k' lt' : Option D), ks.map (fun k => D.int (0 + (k : Nat))) = ks'.map (fun k => D.int (0 + (k : Nat))) ∧ (∀ k ∈ ks', k < 16) ∧ fs'.length + ks'.length = 16 ∧ (∀ x ∈ fs', Az 1 8 x) ∧ M3 ++ [Cell.lst (fs.map D.str ++ [D.str x])] = M3 ++ [Cell.lst (fs'.map D.str)] ∧
          ([some (.ref 1), some (.str abcS), some (.int way), some (.int at'), some (.str word), some (.ref M3.length), some (.int (0 + (k : Nat))), none, none, lt, none] : Ly.Env) = [some (.ref 1), some (.str abcS), some (.int way), some (.int at'), some (.str word), some (.ref M3.length), k', none, none, lt', none] := fun x lt hx =>
        ⟨ks, fs ++ [x], _, _, rfl, hk1, by rw [List.length_append, List.length_singleton]; omega, fun y hy => by
          rcases List.mem_append.mp hy with z | z
          · exact hf y z
          · rw [show y = x by simpa using z]
            exact hx, by rw [List.map_append]; rfl, rfl⟩
      rw [go_ifS]
      simp only [go_test, go_bin, go_var, go_c, go_eqI, List.getElem?_cons_zero, List.getElem?_cons_succ, D.bl.injEq, exists_eq_left']
      split
      · simp only [go_seq, go_setItem, go_bin, go_un, go_var, go_c, go_test, go_andT, go_orT, go_notT, go_yes, go_andV, go_if, go_nil, go_cons, go_tup, go_lst, go_lstC, go_cb, go_call, go_callW, go_meth, go_noPart, go_part, go_sl, go_get, go_next, go_drop, go_ret, go_retN, go_ifS, go_set, go_for, go_lc, go_dc, go_iter, go_enum, go_rng, go_rng1, go_rng2, go_rng3, go_disp, go_pnil, go_pcons, go_bdT, go_bdF, go_ok, go_nx, go_rt, go_addI, go_addS, go_addT, go_addL, go_subI, go_mulI, go_mulL, go_modI, go_fdivI, go_powI, go_ltI, go_leI, go_gtI, go_geI, go_eqI, go_eqS, go_neI, go_neS, go_ixF, go_ixT, go_ixS, go_ixD, go_slT, go_slF, go_slR, go_slS, go_revF, go_revCF, go_revAT, go_revAL, List.getElem?_cons_zero, List.getElem?_cons_succ, List.set_cons_zero, List.set_cons_succ, List.length_cons, List.length_nil, D.int.injEq, D.bl.injEq, D.str.injEq, Option.some.injEq, exists_eq_left', go_listF, go_listT, go_tupleF, go_tupleT, go_lenF, go_lenT, go_lenS, go_isiS, go_isiI, go_intI, go_intB, go_maxI, it_lst, it_tupD, it_strD, en_lst, en_tup, fr_gN, wipeD, go_inTab, go_notInTab, go_tab, go_lc2, go_par2, go_par3, isLst_ref (at_last M3 _), go_append (at_last M3 _), set_last, true_and]
        have n2 := nw.cut none (some ((0 + (k : Int)).fmod 8))
        refine ⟨by decide, nw.sz (by decide), by decide, nw.sz (by decide), decide_eq_true ?_, by decide, ⟨by decide, by decide⟩, ?_⟩
        · have : (cutS word none (some ((0 + (k : Int)).fmod 8))).length ≤ 8 := n2.1
          have : Str.length "z" = 1 := rfl
          omega
        have hd : (0 + (k : Int)).fdiv 8 = 0 ∨ (0 + (k : Int)).fdiv 8 = 1 := by
          rw [Int.fdiv_eq_ediv_of_nonneg _ (by decide)]
          omega
        rcases hd with e | e <;> rw [e]
        · have hk8 : (0 + (k : Int)).fmod 8 = ((k % 8 : Nat) : Int) := by
            rw [Int.fmod_eq_emod_of_nonneg _ (by decide)]
            omega
          have e1 : (1 + (0 + (k : Int)).fmod 8) = ((1 + k % 8 : Nat) : Int) := by rw [hk8]; omega
          refine ⟨_, rfl, by rw [List.length_map]; omega, put _ _ ?_⟩
          rw [e1]
          exact (aw.to (by omega)).mono (by omega) (by omega)
        · have hk8 : (0 + (k : Int)).fmod 8 = ((k % 8 : Nat) : Int) := by
            rw [Int.fmod_eq_emod_of_nonneg _ (by decide)]
            omega
          refine ⟨_, rfl, by rw [List.length_map]; omega, put _ _ ?_⟩
          rw [hk8]
          exact (Az.app (a := 1) (b := 1) (by decide +kernel) (aw.to (by omega))).mono (by omega) (by omega)
      · obtain ⟨c, hc1⟩ : ∃ c, cs[at']? = some c := ⟨_, List.getElem?_eq_getElem (by omega)⟩
        obtain ⟨j, hj, rfl⟩ := hc c (List.mem_of_getElem? hc1)
        have ea : atI word.cps.toList (at' : Int) = some (97 + j) := Ly.atI_nat (by rw [hw]; exact hc1)
        simp only [go_seq, go_setItem, go_bin, go_un, go_var, go_c, go_test, go_andT, go_orT, go_notT, go_yes, go_andV, go_if, go_nil, go_cons, go_tup, go_lst, go_lstC, go_cb, go_call, go_callW, go_meth, go_noPart, go_part, go_sl, go_get, go_next, go_drop, go_ret, go_retN, go_ifS, go_set, go_for, go_lc, go_dc, go_iter, go_enum, go_rng, go_rng1, go_rng2, go_rng3, go_disp, go_pnil, go_pcons, go_bdT, go_bdF, go_ok, go_nx, go_rt, go_addI, go_addS, go_addT, go_addL, go_subI, go_mulI, go_mulL, go_modI, go_fdivI, go_powI, go_ltI, go_leI, go_gtI, go_geI, go_eqI, go_eqS, go_neI, go_neS, go_ixF, go_ixT, go_ixS, go_ixD, go_slT, go_slF, go_slR, go_slS, go_revF, go_revCF, go_revAT, go_revAL, List.getElem?_cons_zero, List.getElem?_cons_succ, List.set_cons_zero, List.set_cons_succ, List.length_cons, List.length_nil, D.int.injEq, D.bl.injEq, D.str.injEq, Option.some.injEq, exists_eq_left', go_listF, go_listT, go_tupleF, go_tupleT, go_lenF, go_lenT, go_lenS, go_isiS, go_isiI, go_intI, go_intB, go_maxI, it_lst, it_tupD, it_strD, en_lst, en_tup, fr_gN, wipeD, go_inTab, go_notInTab, go_tab, go_lc2, go_par2, go_par3, ea, go_index, show Txt.index0 abcS ⟨#[97 + j]⟩ = some j from abc_ix j hj, show isStr (.str abcS) (M3 ++ [Cell.lst (fs.map D.str)]) = true from rfl, true_and]
        have f0 : 0 ≤ ((j : Int) + (0 + (k : Int))).fmod 26 := Int.fmod_nonneg_of_pos _ (by decide)
        have f1 : ((j : Int) + (0 + (k : Int))).fmod 26 < 26 := Int.fmod_lt_of_pos _ (by decide)
        simp only [abc_at f0 f1, go_seq, go_setItem, go_bin, go_un, go_var, go_c, go_test, go_andT, go_orT, go_notT, go_yes, go_andV, go_if, go_nil, go_cons, go_tup, go_lst, go_lstC, go_cb, go_call, go_callW, go_meth, go_noPart, go_part, go_sl, go_get, go_next, go_drop, go_ret, go_retN, go_ifS, go_set, go_for, go_lc, go_dc, go_iter, go_enum, go_rng, go_rng1, go_rng2, go_rng3, go_disp, go_pnil, go_pcons, go_bdT, go_bdF, go_ok, go_nx, go_rt, go_addI, go_addS, go_addT, go_addL, go_subI, go_mulI, go_mulL, go_modI, go_fdivI, go_powI, go_ltI, go_leI, go_gtI, go_geI, go_eqI, go_eqS, go_neI, go_neS, go_ixF, go_ixT, go_ixS, go_ixD, go_slT, go_slF, go_slR, go_slS, go_revF, go_revCF, go_revAT, go_revAL, List.getElem?_cons_zero, List.getElem?_cons_succ, List.set_cons_zero, List.set_cons_succ, List.length_cons, List.length_nil, D.int.injEq, D.bl.injEq, D.str.injEq, Option.some.injEq, exists_eq_left', go_listF, go_listT, go_tupleF, go_tupleT, go_lenF, go_lenT, go_lenS, go_isiS, go_isiI, go_intI, go_intB, go_maxI, it_lst, it_tupD, it_strD, en_lst, en_tup, fr_gN, wipeD, go_inTab, go_notInTab, go_tab, go_lc2, go_par2, go_par3, isLst_ref (at_last M3 _), go_append (at_last M3 _), set_last, true_and]
        have g1 := nw.cut none (some (at' : Int))
        have g2 : Nm 1 ⟨#[97 + (((j : Int) + (0 + (k : Int))).fmod 26).toNat]⟩ := Nm.one (by omega)
        have g3 := nw.cut (some ((at' : Int) + 1)) none
        have g4 := (g1.app g2).app g3
        refine ⟨nw.sz (by decide), by decide, by decide +kernel, nw.sz (by decide), (g1.app g2).sz' (by decide), nw.sz (by decide), g4.sz' (by decide), by rw [List.length_map]; omega, ?_⟩
        refine put _ _ ?_
        have e2 : ((at' : Int) + 1) = ((at' + 1 : Nat) : Int) := by omega
        rw [e2]
        exact (((aw.to (k := at') (by omega)).app (Az.one (c := 97 + (((j : Int) + (0 + (k : Int))).fmod 26).toNat) (by omega) (by omega))).app (aw.from (k := at' + 1) (by omega))).mono (by omega) (by omega)
  · rintro env M' ⟨ks, fs, k0, lt, e, hk, hn, hf, rfl, rfl⟩
    refine ⟨trivial, ?_⟩
    have fin2 : ∀ xs : List Str, NamesOk xs → Go (finish M (.lst (xs.map .str)) (M3 ++ [.lst (fs.map .str)])) Q := fun xs hx =>
      go_fin_dk h (h3.push _) (frz_low (low_strs _ _)) fun M2 h2 => q xs M2 hx h2
    rw [go_seq, go_set, go_lc, go_enum, go_var]
    simp only [List.getElem?_cons_zero, List.getElem?_cons_succ]
    have en : enumOf (.ref M3.length) (M3 ++ [.lst (fs.map .str)]) = some ⟨numbered (fs.map .str), fun M' => M'[M3.length]? = some (.lst (fs.map .str))⟩ := by
      simp only [enumOf, itemsOf, at_last]
      rfl
    refine ⟨_, en, ?_⟩
    simp only [wipeD, List.set_cons_succ, List.set_cons_zero]
    refine go_comp (fun rem acc M' => M' = M3 ++ [.lst (fs.map .str)] ∧ ∃ (k : Nat) (gs : List Str), rem = (numbered (fs.map .str)).drop k ∧ acc = gs.map .str ∧ gs.Nodup ∧ gs.length ≤ k ∧ k + rem.length = fs.length ∧ ∀ y ∈ gs, y ∈ fs.take k) ?_ ?_ _ _ _ ⟨rfl, 0, [], rfl, rfl, .nil, Nat.le_refl _, by rw [numbered_len, List.length_map]; omega, nofun⟩
    · rintro d rem acc M' ⟨rfl, k, gs, e1, rfl, nd, gl, kl, sub⟩
      rw [List.length_cons] at kl
      have hd : (numbered (fs.map D.str))[k]? = some d := by
        have : ((numbered (fs.map D.str)).drop k)[0]? = some d := by rw [← e1]; rfl
        rw [List.getElem?_drop] at this
        exact this
      obtain ⟨x', hx', rfl⟩ := numbered_at hd
      rw [List.getElem?_map] at hx'
      obtain ⟨x, hx, rfl⟩ := Option.map_eq_some_iff.mp hx'
      have e2 : rem = (numbered (fs.map D.str)).drop (k + 1) := by
        rw [← List.drop_drop, ← e1]
        rfl
      have tk : ∀ y, y ∈ fs.take k → y ∈ fs.take (k + 1) := fun y hy => by
        have : (fs.take (k + 1)).take k = fs.take k := by rw [List.take_take, Nat.min_eq_left (by omega)]
        rw [← this] at hy
        exact List.mem_of_mem_take hy
      refine ⟨at_last _ _, _, rfl, ?_⟩
      simp only [go_test, go_bin, go_var, go_sl, go_noPart, go_part, List.set_cons_succ, List.set_cons_zero, List.getElem?_cons_zero, List.getElem?_cons_succ, go_slC (at_last M3 _), D.int.injEq, exists_eq_left', go_notIn, cut_to, ← List.map_take, in_lst, Option.some.injEq, D.bl.injEq]
      split
      · next hb1 =>
        have hb1 : x ∉ fs.take k := by simpa using hb1
        refine ⟨by rw [List.length_map]; omega, trivial, k + 1, gs ++ [x], e2, by rw [List.map_append]; rfl, ?_, by rw [List.length_append, List.length_singleton]; omega, by omega, fun y hy => ?_⟩
        · rw [List.nodup_append]
          exact ⟨nd, by simp, fun y hy z hz => by
            rw [show z = x by simpa using hz]
            exact fun e => hb1 (e ▸ sub y hy)⟩
        · rcases List.mem_append.mp hy with z | z
          · exact tk y (sub y z)
          · rw [show y = x by simpa using z, List.mem_iff_getElem?]
            exact ⟨k, by rw [List.getElem?_take_of_lt (by omega)]; exact hx⟩
      · exact ⟨trivial, k + 1, gs, e2, rfl, nd, by omega, by omega, fun y hy => tk y (sub y hy)⟩
    rintro acc M' ⟨rfl, k, gs, e1, rfl, nd, gl, kl, sub⟩
    refine ⟨at_last _ _, ?_⟩
    have gl2 : gs.length ≤ 16 := by
      rw [List.length_nil] at kl
      omega
    have gn : ∀ x ∈ gs, Az 1 8 x := fun x hx => hf x (List.mem_of_mem_take (sub x hx))
    simp only [go_seq, go_setItem, go_bin, go_un, go_var, go_c, go_test, go_andT, go_orT, go_notT, go_yes, go_andV, go_if, go_nil, go_cons, go_tup, go_lst, go_lstC, go_cb, go_call, go_callW, go_meth, go_noPart, go_part, go_sl, go_get, go_next, go_drop, go_ret, go_retN, go_ifS, go_set, go_for, go_lc, go_dc, go_iter, go_enum, go_rng, go_rng1, go_rng2, go_rng3, go_disp, go_pnil, go_pcons, go_bdT, go_bdF, go_ok, go_nx, go_rt, go_addI, go_addS, go_addT, go_addL, go_subI, go_mulI, go_mulL, go_modI, go_fdivI, go_powI, go_ltI, go_leI, go_gtI, go_geI, go_eqI, go_eqS, go_neI, go_neS, go_ixF, go_ixT, go_ixS, go_ixD, go_slT, go_slF, go_slR, go_slS, go_revF, go_revCF, go_revAT, go_revAL, List.getElem?_cons_zero, List.getElem?_cons_succ, List.set_cons_zero, List.set_cons_succ, List.length_cons, List.length_nil, D.int.injEq, D.bl.injEq, D.str.injEq, Option.some.injEq, exists_eq_left', go_listF, go_listT, go_tupleF, go_tupleT, go_lenF, go_lenT, go_lenS, go_isiS, go_isiI, go_intI, go_intB, go_maxI, it_lst, it_tupD, it_strD, en_lst, en_tup, fr_gN, wipeD, go_inTab, go_notInTab, go_tab, go_lc2, go_par2, go_par3]
    refine ⟨by decide, ?_⟩
    refine go_compP (fun d => match d with | .str x => !decide (x ∈ gs) | _ => false) id trivial _ (by decide) ?_ ?_
    · intro d hd
      obtain ⟨x, hx, rfl⟩ := List.mem_map.mp (show d ∈ moreL.map D.str from hd)
      refine ⟨_, rfl, ?_⟩
      simp only [go_seq, go_setItem, go_bin, go_un, go_var, go_c, go_test, go_andT, go_orT, go_notT, go_yes, go_andV, go_if, go_nil, go_cons, go_tup, go_lst, go_lstC, go_cb, go_call, go_callW, go_meth, go_noPart, go_part, go_sl, go_get, go_next, go_drop, go_ret, go_retN, go_ifS, go_set, go_for, go_lc, go_dc, go_iter, go_enum, go_rng, go_rng1, go_rng2, go_rng3, go_disp, go_pnil, go_pcons, go_bdT, go_bdF, go_ok, go_nx, go_rt, go_addI, go_addS, go_addT, go_addL, go_subI, go_mulI, go_mulL, go_modI, go_fdivI, go_powI, go_ltI, go_leI, go_gtI, go_geI, go_eqI, go_eqS, go_neI, go_neS, go_ixF, go_ixT, go_ixS, go_ixD, go_slT, go_slF, go_slR, go_slS, go_revF, go_revCF, go_revAT, go_revAL, List.getElem?_cons_zero, List.getElem?_cons_succ, List.set_cons_zero, List.set_cons_succ, List.length_cons, List.length_nil, D.int.injEq, D.bl.injEq, D.str.injEq, Option.some.injEq, exists_eq_left', go_listF, go_listT, go_tupleF, go_tupleT, go_lenF, go_lenT, go_lenS, go_isiS, go_isiI, go_intI, go_intB, go_maxI, it_lst, it_tupD, it_strD, en_lst, en_tup, fr_gN, wipeD, go_inTab, go_notInTab, go_tab, go_lc2, go_par2, go_par3, go_notIn, in_lst]
      exact ⟨trivial, trivial, fun _ => ⟨rfl, trivial⟩⟩
    · have e : (([D.str "qa", D.str "qb", D.str "qc", D.str "qd", D.str "qe", D.str "qf", D.str "qg", D.str "qh", D.str "qi", D.str "qj", D.str "qk", D.str "ql", D.str "qm", D.str "qn", D.str "qo", D.str "qp"].filter fun d => match d with | .str x => !decide (x ∈ gs) | _ => false).map id) = (moreL.filter fun x => !decide (x ∈ gs)).map D.str := by
        rw [List.map_id, show ([D.str "qa", D.str "qb", D.str "qc", D.str "qd", D.str "qe", D.str "qf", D.str "qg", D.str "qh", D.str "qi", D.str "qj", D.str "qk", D.str "ql", D.str "qm", D.str "qn", D.str "qo", D.str "qp"] : List D) = moreL.map D.str from rfl, List.filter_map]
        rfl
      rw [e]
      have ml : (moreL.filter fun x => !decide (x ∈ gs)).length ≤ 16 := List.length_filter_le _ moreL
      refine ⟨decide_eq_true (by rw [List.length_map, List.length_map]; omega), ?_⟩
      rw [show (16 : Int) = ((16 : Nat) : Int) from rfl, cut_to, ← List.map_append, ← List.map_take]
      exact fin2 _ (way2 gs nd gn)
end Sk

namespace Sk
open PySem PySem.Spec PyProof.Rows L2 Ly
/-! ### steps -/
inductive O where
  | s (x : Str) | i (k : Int)
  deriving DecidableEq
def od : O → D
  | .s x => .str x
  | .i k => .int k
structure Stp where
  w : Str
  n : Str
  os : List O
def stD (s : Stp) : D := .tup (.str s.w :: .str s.n :: s.os.map od)
/-- a line's step is made through p -/
def Thru (l : Stp) (p : Str) : Prop := (l.w = "line" ∧ .s p ∈ l.os) ∨ ((l.w = "along" ∨ l.w = "upright") ∧ l.os.head? = some (.s p))
/-- what a word's form is -/
def formL : List (Str × List Nat) := [("free", []), ("on", [76]), ("round", [67]), ("meet", [76, 76]), ("middle", [80, 80]), ("foot", [80, 76]), ("mirror", [80, 76]), ("turn", [80, 80, 110]), ("other", [76, 67, 80]), ("cross", [76, 67, 107]), ("line", [80, 80]), ("along", [80, 76]), ("upright", [80, 76]), ("circle", [80, 80])]
def sortC (w : Str) : Nat := if w = "circle" then 67 else if w ∈ (["line", "along", "upright"] : List Str) then 76 else 80
inductive ItemOk (ss : List Stp) : Nat → O → Prop
  | n {k : Int} : 1 ≤ k → k ≤ 3 → ItemOk ss 110 (.i k)
  | k {k : Int} : 0 ≤ k → k ≤ 1 → ItemOk ss 107 (.i k)
  | s {t : Stp} : t ∈ ss → ItemOk ss (sortC t.w) (.s t.n)
inductive All2 {α β : Type} (R : α → β → Prop) : List α → List β → Prop
  | nil : All2 R [] []
  | cons {a : α} {b : β} {as : List α} {bs : List β} : R a b → All2 R as bs → All2 R (a :: as) (b :: bs)
theorem All2.length {α β : Type} {R : α → β → Prop} : ∀ {as : List α} {bs : List β}, All2 R as bs → as.length = bs.length
  | _, _, .nil => rfl
  | _, _, .cons _ t => by rw [List.length_cons, List.length_cons, t.length]
theorem All2.imp {α β : Type} {R S : α → β → Prop} (h : ∀ a b, R a b → S a b) : ∀ {as : List α} {bs : List β}, All2 R as bs → All2 S as bs
  | _, _, .nil => .nil
  | _, _, .cons r t => .cons (h _ _ r) (t.imp h)
theorem All2.snoc {α β : Type} {R : α → β → Prop} {a : α} {b : β} (r : R a b) : ∀ {as : List α} {bs : List β}, All2 R as bs → All2 R (as ++ [a]) (bs ++ [b])
  | _, _, .nil => .cons r .nil
  | _, _, .cons q t => .cons q (t.snoc r)
theorem All2.right {α β : Type} {R : α → β → Prop} : ∀ {as : List α} {bs : List β}, All2 R as bs → ∀ b ∈ bs, ∃ a ∈ as, R a b
  | _, _, .nil, b, h => by cases h
  | _, _, .cons q t, b, h => by
    rcases List.mem_cons.mp h with rfl | h
    · exact ⟨_, List.mem_cons_self, q⟩
    · obtain ⟨a, h1, h2⟩ := t.right b h
      exact ⟨a, List.mem_cons_of_mem _ h1, h2⟩
def strsO (os : List O) : List Str := os.filterMap fun o => match o with
  | .s x => some x
  | .i _ => none
theorem mem_strsO {os : List O} {x : Str} : x ∈ strsO os ↔ O.s x ∈ os := by
  unfold strsO
  rw [List.mem_filterMap]
  constructor
  · rintro ⟨o, h, e⟩
    cases o with
    | s y =>
      cases e
      exact h
    | i k => cases e
  · exact fun h => ⟨_, h, rfl⟩
/-- a step that goes on behind these -/
structure Fit (ss : List Stp) (s : Stp) : Prop where
  nm : Az 1 8 s.n
  form : ∃ z, (s.w, z) ∈ formL ∧ All2 (ItemOk ss) z s.os
  nd : (strsO s.os).Nodup
  oth : s.w = "other" → ∃ l ∈ ss, ∃ c ∈ ss, ∃ p m, s.os = [.s l.n, .s c.n, .s p] ∧ c.w = "circle" ∧ c.os = [.s m, .s p] ∧ Thru l p
theorem ItemOk.mono {ss ss' : List Stp} (h : ∀ s ∈ ss, s ∈ ss') {c : Nat} {o : O} (i : ItemOk ss c o) : ItemOk ss' c o := by
  cases i with
  | n a b => exact .n a b
  | k a b => exact .k a b
  | s t => exact .s (h _ t)
theorem Fit.mono {ss ss' : List Stp} {s : Stp} (h : Fit ss s) (hs : ∀ s ∈ ss, s ∈ ss') : Fit ss' s :=
  ⟨h.nm, let ⟨z, a, b⟩ := h.form; ⟨z, a, b.imp fun _ _ => ItemOk.mono hs⟩, h.nd, fun e => let ⟨l, hl, c, hc, r⟩ := h.oth e; ⟨l, hs _ hl, c, hs _ hc, r⟩⟩
structure SkOk (ss : List Stp) : Prop where
  fit : ∀ pre s post, ss = pre ++ s :: post → Fit pre s
  nd : (ss.map (·.n)).Nodup
theorem SkOk.mem {ss : List Stp} (h : SkOk ss) {s : Stp} (hs : s ∈ ss) : Fit ss s := by
  obtain ⟨pre, post, e⟩ := List.append_of_mem hs
  refine (h.fit pre s post e).mono fun x hx => ?_
  rw [e]
  exact List.mem_append_left _ hx
theorem SkOk.snoc {ss : List Stp} {s : Stp} (h : SkOk ss) (hs : Fit ss s) (hn : s.n ∉ ss.map (·.n)) : SkOk (ss ++ [s]) := by
  refine ⟨?_, ?_⟩
  · intro pre t post e
    rcases List.eq_nil_or_concat post with rfl | ⟨post', u, e'⟩
    · obtain ⟨e1, e2⟩ := List.append_inj' e rfl
      cases e2
      rw [← e1]
      exact hs
    · rw [List.concat_eq_append] at e'
      subst e'
      have e3 : ss ++ [s] = (pre ++ t :: post') ++ [u] := by
        rw [e]
        simp
      exact h.fit pre t post' (List.append_inj' e3 rfl).1
  · rw [List.map_append, List.nodup_append]
    exact ⟨h.nd, by simp, fun a ha b hb => by
      have : b = s.n := by simpa using hb
      subst this
      exact fun z => hn (z ▸ ha)⟩
theorem SkOk.take {ss : List Stp} (h : SkOk ss) (k : Nat) : SkOk (ss.take k) := by
  refine ⟨?_, ?_⟩
  · intro pre s post e
    refine h.fit pre s (post ++ ss.drop k) ?_
    have t := List.take_append_drop k ss
    rw [e] at t
    exact t.symm.trans (by simp)
  · rw [List.map_take]
    exact List.Nodup.sublist (List.take_sublist _ _) h.nd
theorem SkOk.pre {a b : List Stp} (h : SkOk (a ++ b)) : SkOk a := by
  have := h.take a.length
  rwa [List.take_left] at this
theorem SkOk.nil : SkOk [] := ⟨fun pre s post e => by simp at e, .nil⟩
/-! by words -/
theorem formL_nd : (formL.map (·.1)).Nodup := by decide +kernel
theorem form_unique {w : Str} {z z' : List Nat} (h : (w, z) ∈ formL) (h' : (w, z') ∈ formL) : z = z' := by
  have key : ∀ (l : List (Str × List Nat)), (l.map (·.1)).Nodup → (w, z) ∈ l → (w, z') ∈ l → z = z' := by
    intro l
    induction l with
    | nil => intro _ h; cases h
    | cons a l ih =>
      intro nd h h'
      rw [List.map_cons, List.nodup_cons] at nd
      rcases List.mem_cons.mp h with e | h
      · rcases List.mem_cons.mp h' with e' | h'
        · rw [← e] at e'
          exact (Prod.mk.inj e').2.symm
        · exact absurd (List.mem_map.mpr ⟨_, h', by rw [← e]⟩) nd.1
      · rcases List.mem_cons.mp h' with e' | h'
        · exact absurd (List.mem_map.mpr ⟨_, h, by rw [← e']⟩) nd.1
        · exact ih nd.2 h h'
  exact key formL formL_nd h h'
theorem All2.two {R : Nat → O → Prop} {a b : Nat} {os : List O} (h : All2 R [a, b] os) : ∃ x y, os = [x, y] ∧ R a x ∧ R b y := by
  cases h with
  | cons r t =>
    cases t with
    | cons r' t =>
      cases t
      exact ⟨_, _, rfl, r, r'⟩
theorem All2.three {R : Nat → O → Prop} {a b c : Nat} {os : List O} (h : All2 R [a, b, c] os) : ∃ x y z, os = [x, y, z] ∧ R a x ∧ R b y ∧ R c z := by
  cases h with
  | cons r t =>
    obtain ⟨y, z, rfl, h1, h2⟩ := t.two
    exact ⟨_, y, z, rfl, r, h1, h2⟩
theorem All2.one {R : Nat → O → Prop} {a : Nat} {os : List O} (h : All2 R [a] os) : ∃ x, os = [x] ∧ R a x := by
  cases h with
  | cons r t =>
    cases t
    exact ⟨_, rfl, r⟩
theorem sortC_cases (w : Str) : sortC w = 67 ∨ sortC w = 76 ∨ sortC w = 80 := by
  unfold sortC
  split
  · exact .inl rfl
  · split
    · exact .inr (.inl rfl)
    · exact .inr (.inr rfl)
/-- a thing's name where a form asks for one -/
theorem ItemOk.str {ss : List Stp} {c : Nat} {o : O} (h : ItemOk ss c o) (hc : c ≠ 110) (hc2 : c ≠ 107) : ∃ t ∈ ss, o = .s t.n ∧ sortC t.w = c := by
  cases h with
  | n => exact absurd rfl hc
  | k => exact absurd rfl hc2
  | s t => exact ⟨_, t, rfl, rfl⟩
theorem Fit.at {ss : List Stp} {s : Stp} (h : Fit ss s) {w : Str} {z : List Nat} (hw : s.w = w) (hz : (w, z) ∈ formL) : All2 (ItemOk ss) z s.os := by
  obtain ⟨z', h1, h2⟩ := h.form
  rw [hw] at h1
  rw [form_unique hz h1]
  exact h2
theorem Fit.cir {ss : List Stp} {s : Stp} (h : Fit ss s) (hw : s.w = "circle") : ∃ p q, s.os = [.s p, .s q] := by
  obtain ⟨x, y, e, hx, hy⟩ := (h.at hw (z := [80, 80]) (by decide +kernel)).two
  obtain ⟨t, _, rfl, _⟩ := hx.str (by decide) (by decide)
  obtain ⟨u, _, rfl, _⟩ := hy.str (by decide) (by decide)
  exact ⟨_, _, e⟩
theorem at_0 {α : Type} {x : α} {xs : List α} : atI (x :: xs) 0 = some x := Ly.atI_nat (n := 0) rfl
theorem at_1 {α : Type} {x y : α} {xs : List α} : atI (x :: y :: xs) 1 = some y := Ly.atI_nat (n := 1) rfl
theorem at_3 {α : Type} {x y z t : α} {xs : List α} : atI (x :: y :: z :: t :: xs) 3 = some t := Ly.atI_nat (n := 3) rfl
theorem flat_od (os : List O) : (os.map od).all flatD = true := by
  rw [List.all_eq_true]
  intro d hd
  obtain ⟨o, _, rfl⟩ := List.mem_map.mp hd
  cases o <;> rfl
theorem inD_od (x : Str) : ∀ os : List O, inD (.str x) (os.map od) = decide (O.s x ∈ os)
  | [] => rfl
  | o :: os => by
    show (eqFD (od o) (.str x) || inD (.str x) (os.map od)) = _
    rw [inD_od x os]
    cases o with
    | s y =>
      show ((y == x) || _) = _
      by_cases h : y = x
      · subst h
        simp
      · have h' : ¬ x = y := fun z => h z.symm
        simp [h, h']
    | i k =>
      show (false || _) = _
      simp
theorem in_od {M : Mem} {x : Str} {os : List O} : inM M (.str x) (.tup (os.map od)) = some (decide (O.s x ∈ os)) := by
  show (if flatD (.str x) && (os.map od).all flatD then some (inD (.str x) (os.map od)) else none) = _
  rw [flat_od, inD_od]
  rfl
theorem low_od (k : Nat) : ∀ os : List O, lowL k (os.map od) = true
  | [] => rfl
  | o :: os => by
    have : lowL k (os.map od) = true := low_od k os
    cases o
    · show (true && lowL k (os.map od)) = true
      rw [this]
      rfl
    · show (true && lowL k (os.map od)) = true
      rw [this]
      rfl
theorem low_st (k : Nat) (s : Stp) : (stD s).low k = true := by
  show (true && (true && lowL k (s.os.map od))) = true
  rw [low_od]
  rfl
theorem cut_os2 (s : Stp) : Ly.cutD (.str s.w :: .str s.n :: s.os.map od) (some 2) none = s.os.map od := by
  rw [show (2 : Int) = ((2 : Nat) : Int) from rfl, cut_from]
  rfl
theorem cut_os3 (s : Stp) : Ly.cutD (.str s.w :: .str s.n :: s.os.map od) (some 2) (some 3) = (s.os.take 1).map od := by
  have e : HT.sIx (D.str s.w :: D.str s.n :: s.os.map od).length 0 (some 2) = 2 := by
    rw [show (2 : Int) = ((2 : Nat) : Int) from rfl, HT.sIx_nat, List.length_cons, List.length_cons]
    omega
  have e3 : HT.sIx (D.str s.w :: D.str s.n :: s.os.map od).length (D.str s.w :: D.str s.n :: s.os.map od).length (some 3) = min 3 (s.os.length + 2) := by
    rw [show (3 : Int) = ((3 : Nat) : Int) from rfl, HT.sIx_nat, List.length_cons, List.length_cons, List.length_map]
  unfold Ly.cutD
  rw [e, e3, List.map_take]
  show (s.os.map od).take _ = _
  cases s.os with
  | nil => rfl
  | cons o os =>
    rw [show min 3 ((o :: os).length + 2) - 2 = 1 by rw [List.length_cons]; omega]
theorem get3 (M : Mem) (w : Str) (a b c : D) (P : D → Prop) (ha : w = "line" → P a) (hb : w = "along" → P b) (hc : w = "upright" → P c) (hz : P (.tup [])) {Q : D → Mem → Prop} (q : ∀ d, P d → Q d M) : Go (opGet (.dic (mergeD [] [(.inr "line", a), (.inr "along", b), (.inr "upright", c)])) (.str w) (.tup []) M) Q := by
  have e : mergeD [] [((.inr "line" : Key), a), (.inr "along", b), (.inr "upright", c)] = [(.inr "line", a), (.inr "along", b), (.inr "upright", c)] := rfl
  rw [e]
  show Q ((valD [(.inr "line", a), (.inr "along", b), (.inr "upright", c)] (.inr w)).getD (.tup [])) M
  refine q _ ?_
  unfold valD
  by_cases h1 : (.inr "line" : Key) = .inr w
  · rw [List.find?_cons_of_pos (by simpa using h1)]
    exact ha (Sum.inr.inj h1).symm
  · rw [List.find?_cons_of_neg (by simpa using h1)]
    by_cases h2 : (.inr "along" : Key) = .inr w
    · rw [List.find?_cons_of_pos (by simpa using h2)]
      exact hb (Sum.inr.inj h2).symm
    · rw [List.find?_cons_of_neg (by simpa using h2)]
      by_cases h3 : (.inr "upright" : Key) = .inr w
      · rw [List.find?_cons_of_pos (by simpa using h3)]
        exact hc (Sum.inr.inj h3).symm
      · rw [List.find?_cons_of_neg (by simpa using h3)]
        exact hz
theorem thru3 {l : Stp} {p : Str} (e : l.w = "along" ∨ l.w = "upright") (h : O.s p ∈ l.os.take 1) : Thru l p := by
  refine .inr ⟨e, ?_⟩
  cases ho : l.os with
  | nil =>
    rw [ho] at h
    cases h
  | cons o os =>
    rw [ho] at h
    have : O.s p = o := by simpa using h
    rw [this]
    rfl
def OthOk (ss : List Stp) (t : Str × Str × Str) : Prop := ∃ l ∈ ss, ∃ c ∈ ss, c.w = "circle" ∧ t.1 = l.n ∧ t.2.1 = c.n ∧ (∃ m, c.os = [.s m, .s t.2.2]) ∧ Thru l t.2.2
def tD3 (t : Str × Str × Str) : D := .tup [.str t.1, .str t.2.1, .str t.2.2]
theorem others_ok {M : Mem} {n : Nat} {ss : List Stp} {Q : D → Mem → Prop} (hM : M[n]? = some (.lst (ss.map stD))) (hs : SkOk ss) (hl : ss.length ≤ 20)
    (q : ∀ ts : List (Str × Str × Str), (∀ t ∈ ts, OthOk ss t) → ts.length ≤ 400 → Q (.lst (ts.map tD3)) M) : Go (f__law_others [.ref n] M) Q := by
  have hn : n < M.length := (List.getElem?_eq_some_iff.mp hM).1
  have hM' : ∀ c : Cell, (M ++ [c])[n]? = some (.lst (ss.map stD)) := fun c => by rw [List.getElem?_append_left hn]; exact hM
  have it : ∀ c : Cell, itemsOf (.ref n) (M ++ [c]) = some ⟨ss.map stD, fun M' => M'[n]? = some (.lst (ss.map stD))⟩ := fun c => by
    simp only [itemsOf, hM' c]
  rw [f__law_others, go_callD, show startD 5 [D.ref n] = [some (.ref n), none, none, none, none] from rfl, m__law_others]
  rw [go_seq, go_set, go_lstC, go_nil]
  refine ⟨by decide, ?_⟩
  rw [go_seq, go_for, go_iter, go_var]
  simp only [List.getElem?_cons_zero, List.set_cons_succ, List.set_cons_zero]
  refine ⟨_, it _, ?_⟩
  refine go_loop (fun rem env M' => ∃ (post : List Stp) (ts : List (Str × Str × Str)) (c l th : Option D), rem = post.map stD ∧ (∀ s ∈ post, s ∈ ss) ∧ M' = M ++ [.lst (ts.map tD3)] ∧ env = [some (.ref n), some (.ref M.length), c, l, th] ∧ (∀ t ∈ ts, OthOk ss t) ∧ ts.length + 20 * post.length ≤ 400)
    ?_ ?_ _ _ _ ⟨ss, [], none, none, none, rfl, fun _ h => h, rfl, rfl, nofun, by rw [List.length_nil]; omega⟩
  · rintro d rem env M' ⟨post, ts, c, l, th, e, hp, rfl, rfl, ht, hn2⟩
    refine ⟨hM' _, _, rfl, ?_⟩
    cases post with
    | nil => cases e
    | cons s post =>
      cases e
      have hs1 := hp s List.mem_cons_self
      have hp1 : ∀ s ∈ post, s ∈ ss := fun x hx => hp x (List.mem_cons_of_mem _ hx)
      rw [List.length_cons] at hn2
      simp only [List.set_cons_succ, List.set_cons_zero]
      rw [go_ifS]
      simp only [go_test, go_bin, go_var, go_c, List.getElem?_cons_zero, List.getElem?_cons_succ, stD, go_ixT, at_0, Option.some.injEq, exists_eq_left', go_eqS, D.bl.injEq]
      split
      · next ew =>
        have ew : s.w = "circle" := of_decide_eq_true ew
        obtain ⟨p, p2, eo⟩ := (hs.mem hs1).cir ew
        rw [go_for, go_iter, go_var]
        simp only [List.getElem?_cons_zero]
        refine ⟨_, it _, ?_⟩
        refine go_loop (fun rem env M' => ∃ (po : List Stp) (ts : List (Str × Str × Str)) (l th : Option D), rem = po.map stD ∧ (∀ s ∈ po, s ∈ ss) ∧ M' = M ++ [.lst (ts.map tD3)] ∧ env = [some (.ref n), some (.ref M.length), some (.tup (.str s.w :: .str s.n :: s.os.map od)), l, th] ∧ (∀ t ∈ ts, OthOk ss t) ∧ ts.length + po.length + 20 * post.length ≤ 400)
          ?_ ?_ _ _ _ ⟨ss, ts, l, th, rfl, fun _ h => h, rfl, rfl, ht, by omega⟩
        · rintro d rem env M' ⟨po, ts, l, th, e, hp, rfl, rfl, ht, hn2⟩
          refine ⟨hM' _, _, rfl, ?_⟩
          cases po with
          | nil => cases e
          | cons s' po =>
            cases e
            have hs2 := hp s' List.mem_cons_self
            have hp2 : ∀ s ∈ po, s ∈ ss := fun x hx => hp x (List.mem_cons_of_mem _ hx)
            rw [List.length_cons] at hn2
            simp only [List.set_cons_succ, List.set_cons_zero]
            simp only [go_seq, go_setItem, go_bin, go_un, go_var, go_c, go_test, go_andT, go_orT, go_notT, go_yes, go_andV, go_if, go_nil, go_cons, go_tup, go_lst, go_lstC, go_cb, go_call, go_callW, go_meth, go_noPart, go_part, go_sl, go_get, go_next, go_drop, go_ret, go_retN, go_ifS, go_set, go_for, go_lc, go_dc, go_iter, go_enum, go_rng, go_rng1, go_rng2, go_rng3, go_disp, go_pnil, go_pcons, go_bdT, go_bdF, go_ok, go_nx, go_rt, go_addI, go_addS, go_addT, go_addL, go_subI, go_mulI, go_mulL, go_modI, go_fdivI, go_powI, go_ltI, go_leI, go_gtI, go_geI, go_eqI, go_eqS, go_neI, go_neS, go_ixF, go_ixT, go_ixS, go_ixD, go_slT, go_slF, go_slR, go_slS, go_revF, go_revCF, go_revAT, go_revAL, List.getElem?_cons_zero, List.getElem?_cons_succ, List.set_cons_zero, List.set_cons_succ, List.length_cons, List.length_nil, D.int.injEq, D.bl.injEq, D.str.injEq, Option.some.injEq, exists_eq_left', go_listF, go_listT, go_tupleF, go_tupleT, go_lenF, go_lenT, go_lenS, go_isiS, go_isiI, go_intI, go_intB, go_maxI, it_lst, it_tupD, it_strD, en_lst, en_tup, fr_gN, wipeD, go_inTab, go_notInTab, go_tab, go_lc2, go_par2, go_par3, stD, at_0, at_1, cut_os2, cut_os3, isDic_dic, true_and]
            refine ⟨_, rfl, by show 3 ≤ 15; decide, by decide, ?_⟩
            refine get3 _ _ _ _ _ (fun d => ∃ os : List O, d = .tup (os.map od) ∧ ∀ p, .s p ∈ os → Thru s' p) (fun e => ⟨_, rfl, fun p hp => .inl ⟨e, hp⟩⟩) (fun e => ⟨_, rfl, fun p hp => thru3 (.inl e) hp⟩) (fun e => ⟨_, rfl, fun p hp => thru3 (.inr e) hp⟩) ⟨[], rfl, nofun⟩ ?_
            rintro d ⟨os, rfl, hth⟩
            have a3 : atI (D.str s.w :: D.str s.n :: s.os.map od) 3 = some (.str p2) := by
              rw [eo]
              exact at_3
            simp only [a3, Option.some.injEq, exists_eq_left', go_in, in_od, D.bl.injEq]
            split
            · next hin =>
              rw [isLst_ref (at_last M _), go_append (at_last M _), set_last]
              refine ⟨rfl, by decide, by rw [List.length_map]; omega, po, ts ++ [(s'.n, s.n, p2)], _, _, rfl, hp2, by rw [List.map_append]; rfl, rfl, fun t ht' => ?_, by rw [List.length_append, List.length_singleton]; omega⟩
              rcases List.mem_append.mp ht' with z | z
              · exact ht t z
              · rw [show t = (s'.n, s.n, p2) by simpa using z]
                exact ⟨s', hs2, s, hs1, ew, rfl, rfl, ⟨p, eo⟩, hth p2 (of_decide_eq_true hin)⟩
            · exact ⟨po, ts, _, _, rfl, hp2, rfl, rfl, ht, by omega⟩
        · rintro env M' ⟨po, ts, l, th, e, hp, rfl, rfl, ht, hn2⟩
          exact ⟨hM' _, post, ts, _, l, th, rfl, hp1, rfl, rfl, ht, by omega⟩
      · rw [go_next]
        exact ⟨post, ts, _, _, _, rfl, hp1, rfl, rfl, ht, by omega⟩
  · rintro env M' ⟨post, ts, c, l, th, e, hp, rfl, rfl, ht, hn2⟩
    refine ⟨hM' _, ?_⟩
    simp only [go_ret, go_var, List.getElem?_cons_zero, List.getElem?_cons_succ]
    refine go_fin_app (frz_lst (at_last M _) ?_) (q ts ht (by omega))
    have lw : ∀ l : List (Str × Str × Str), lowL M.length (l.map tD3) = true := by
      intro l
      induction l with
      | nil => rfl
      | cons t l ih =>
        show (true && lowL M.length (l.map tD3)) = true
        rw [ih]
        rfl
    exact lw ts
end Sk

namespace Sk
open PySem PySem.Spec PyProof.Rows L2 Ly
def cellsU (U : List (List Str)) : Mem := U.map fun l => Cell.lst (l.map D.str)
def leftK (t : Nat) : List (Key × D) := [(.inr "P", .ref (t + 0 + 2)), (.inr "L", .ref (t + 1 + 2)), (.inr "C", .ref (t + 2 + 2))]
def codeAt : Nat → Nat
  | 0 => 80
  | 1 => 76
  | _ => 67
theorem left_sort {t : Nat} {w : Str} : ∃ i, i < 3 ∧ codeAt i = sortC w ∧ (keyOf (.str (sortS w))).bind (valD (leftK t)) = some (.ref (t + i + 2)) := by
  unfold sortS sortC
  split
  · exact ⟨2, by decide, rfl, rfl⟩
  · split
    · exact ⟨1, by decide, rfl, rfl⟩
    · exact ⟨0, by decide, rfl, rfl⟩
structure Lf (b : Nat) (T : Mem) (ss : List Stp) (U : List (List Str)) (M : Mem) : Prop where
  dk : DkIs b (T ++ cellsU U) M
  len : U.length = 3
  sm : ∀ l ∈ U, l.length ≤ 100
  srt : ∀ i l, U[i]? = some l → ∀ x ∈ l, ∃ t ∈ ss, t.n = x ∧ sortC t.w = codeAt i
theorem Lf.at_ {b : Nat} {T M : Mem} {ss : List Stp} {U : List (List Str)} (h : Lf b T ss U M) {i : Nat} (hi : i < 3) : ∃ l, U[i]? = some l ∧ l ∈ U ∧ M[T.length + i + 2]? = some (.lst (l.map .str)) := by
  have hl : i < U.length := by rw [h.len]; exact hi
  refine ⟨U[i], List.getElem?_eq_getElem hl, List.getElem_mem hl, ?_⟩
  rw [h.dk.new]
  unfold cellsU
  rw [List.getElem?_map, List.getElem?_eq_getElem hl]
  rfl
theorem Lf.put {b : Nat} {T M : Mem} {ss : List Stp} {U : List (List Str)} (h : Lf b T ss U M) {i : Nat} {l : List Str} {ds : List D} (hd : ds = l.map .str) (hl : l.length ≤ 100) (hm : ∀ x ∈ l, ∃ t ∈ ss, t.n = x ∧ sortC t.w = codeAt i) : Lf b T ss (U.set i l) (M.set (T.length + i + 2) (.lst ds)) := by
  refine ⟨?_, by rw [List.length_set, h.len], fun k hk => ?_, fun j k hk => ?_⟩
  · have := h.dk.put i (.lst ds)
    rw [hd] at this ⊢
    unfold cellsU at this ⊢
    rw [List.map_set]
    exact this
  · rcases List.mem_or_eq_of_mem_set hk with z | z
    · exact h.sm k z
    · rw [z]
      exact hl
  · by_cases z : i = j
    · subst z
      have hlt : i < U.length := by
        have := (List.getElem?_eq_some_iff.mp hk).1
        rwa [List.length_set] at this
      rw [List.getElem?_set_self hlt] at hk
      cases hk
      exact hm
    · rw [List.getElem?_set_ne z] at hk
      exact h.srt j k hk
theorem flat_perm {x : Str} {l l' : List Str} : ∀ {U : List (List Str)} {i : Nat}, U[i]? = some l → l'.Perm (x :: l) → (U.set i l').flatten.Perm (x :: U.flatten)
  | [], i, h, _ => by simp at h
  | u :: U, 0, h, p => by
    have h : u = l := by simpa using h
    subst h
    show (l' ++ U.flatten).Perm (x :: (u ++ U.flatten))
    exact p.append_right U.flatten
  | u :: U, i + 1, h, p => by
    have h : U[i]? = some l := by simpa using h
    show (u ++ (U.set i l').flatten).Perm (x :: (u ++ U.flatten))
    exact ((flat_perm h p).append_left u).trans List.perm_middle
theorem erase_perm : ∀ (l : List Str) (r : Nat) (a : Str), l[r]? = some a → l.Perm (a :: l.eraseIdx r)
  | [], r, a, h => by simp at h
  | x :: l, 0, a, h => by
    have h : x = a := by simpa using h
    subst h
    exact .refl _
  | x :: l, r + 1, a, h => by
    have h : l[r]? = some a := by simpa using h
    show (x :: l).Perm (a :: x :: l.eraseIdx r)
    exact ((erase_perm l r a h).cons x).trans (List.Perm.swap a x _)
theorem form_other : (("other" : Str), [76, 67, 80]) ∈ formL := by decide +kernel
theorem form_free : (("free" : Str), []) ∈ formL := by decide +kernel
theorem ne_free : ("free" : Str) ≠ "other" := by decide +kernel
theorem flat_erase {a : Str} {l : List Str} {U : List (List Str)} {i r : Nat} (h : U[i]? = some l) (hr : l[r]? = some a) : U.flatten.Perm (a :: (U.set i (l.eraseIdx r)).flatten) := by
  obtain ⟨hr1, hr2⟩ := List.getElem?_eq_some_iff.mp hr
  have hi := (List.getElem?_eq_some_iff.mp h).1
  have p : l.Perm (a :: l.eraseIdx r) := by
    exact erase_perm l r a hr
  have e1 : (U.set i (l.eraseIdx r))[i]? = some (l.eraseIdx r) := List.getElem?_set_self hi
  have := flat_perm e1 p
  rw [List.set_set] at this
  have e2 : U.set i l = U := by
    refine List.ext_getElem? fun j => ?_
    by_cases z : i = j
    · subst z
      rw [List.getElem?_set_self hi, h]
    · rw [List.getElem?_set_ne z]
  rw [e2] at this
  exact this
theorem SkOk.nms {ss : List Stp} (h : SkOk ss) : ∀ s ∈ ss, Nm 32 s.n := fun s hs => (h.mem hs).nm.nm (by decide)
theorem SkOk.inj {ss : List Stp} (h : SkOk ss) {s t : Stp} (hs : s ∈ ss) (ht : t ∈ ss) (e : s.n = t.n) : s = t := by
  obtain ⟨i, hi⟩ := List.mem_iff_getElem?.mp hs
  obtain ⟨j, hj⟩ := List.mem_iff_getElem?.mp ht
  have h1 : (ss.map (·.n))[i]? = some s.n := by rw [List.getElem?_map, hi]; rfl
  have h2 : (ss.map (·.n))[j]? = some s.n := by rw [List.getElem?_map, hj, e]; rfl
  have := nodup_at h.nd h1 h2
  subst this
  rw [hi] at hj
  exact Option.some.inj hj
/-- what a word wants -/
theorem forms_at (b : Bool) : ∀ w ∈ wordsB b, ∃ z : Str, (keyOf (.str w)).bind (valD formsL) = some (.str z) ∧ (w, z.cps.toList) ∈ formL := by
  intro w hw
  have key : ∀ b : Bool, ∀ w ∈ wordsB b, (match (keyOf (.str w)).bind (valD formsL) with
    | some (.str z) => decide ((w, z.cps.toList) ∈ formL)
    | _ => false) = true := by decide +kernel
  have k := key b w hw
  split at k
  · next z e => exact ⟨z, e, of_decide_eq_true k⟩
  · exact nomatch k
theorem formL_codes : ∀ p ∈ formL, p.2.length ≤ 3 ∧ ∀ c ∈ p.2, c = 80 ∨ c = 76 ∨ c = 67 ∨ c = 110 ∨ c = 107 := by decide +kernel
theorem thru_sort {l : Stp} {p : Str} (h : Thru l p) : sortC l.w = 76 := by
  rcases h with ⟨e, _⟩ | ⟨e | e, _⟩ <;> rw [e] <;> decide +kernel
theorem OthOk.fit {ss : List Stp} (hs : SkOk ss) {name : Str} (hnm : Az 1 8 name) {t : Str × Str × Str} (h : OthOk ss t) : Fit ss ⟨"other", name, [.s t.1, .s t.2.1, .s t.2.2]⟩ := by
  obtain ⟨l, hl, c, hc, cw, e1, e2, ⟨m, eo⟩, th⟩ := h
  obtain ⟨x, y, e, _, hy⟩ := ((hs.mem hc).at cw (z := [80, 80]) (by decide +kernel)).two
  rw [eo] at e
  cases e
  obtain ⟨u, hu, e3, hu2⟩ := hy.str (by decide) (by decide)
  have e3 : t.2.2 = u.n := by injection e3
  have cs : sortC c.w = 67 := by rw [cw]; decide +kernel
  have ls := thru_sort th
  have n12 : l.n ≠ c.n := fun z => by
    have := hs.inj hl hc z
    rw [this, cs] at ls
    cases ls
  have n13 : l.n ≠ u.n := fun z => by
    have := hs.inj hl hu z
    rw [this, hu2] at ls
    cases ls
  have n23 : c.n ≠ u.n := fun z => by
    have := hs.inj hc hu z
    rw [this, hu2] at cs
    cases cs
  refine ⟨hnm, ⟨[76, 67, 80], form_other, .cons ?_ (.cons ?_ (.cons ?_ .nil))⟩, ?_, fun _ => ⟨l, hl, c, hc, t.2.2, m, by rw [e1, e2], cw, eo, th⟩⟩
  · rw [e1, ← ls]
    exact .s hl
  · rw [e2, ← cs]
    exact .s hc
  · rw [e3, ← hu2]
    exact .s hu
  · show [t.1, t.2.1, t.2.2].Nodup
    rw [e1, e2, e3]
    simp [n12, n13, n23]
theorem erase_map {α β : Type} (f : α → β) : ∀ (l : List α) (i : Nat), (l.map f).eraseIdx i = (l.eraseIdx i).map f
  | [], _ => rfl
  | _ :: _, 0 => rfl
  | a :: l, i + 1 => congrArg (f a :: ·) (erase_map f l i)
theorem free_fit {ss : List Stp} {name : Str} (h : Az 1 8 name) : Fit ss ⟨"free", name, []⟩ := ⟨h, ⟨[], form_free, .nil⟩, .nil, fun z => absurd z ne_free⟩
def sg (c : Nat) : Str := ⟨#[c]⟩
theorem sg_n : decide (sg 110 = "n") = true ∧ decide (sg 107 = "n") = false ∧ decide (sg 80 = "n") = false ∧ decide (sg 76 = "n") = false ∧ decide (sg 67 = "n") = false := by decide +kernel
theorem sg_k : decide (sg 107 = "k") = true ∧ decide (sg 80 = "k") = false ∧ decide (sg 76 = "k") = false ∧ decide (sg 67 = "k") = false := by decide +kernel
theorem sg_p : sg 80 = "P" ∧ sg 76 = "L" ∧ sg 67 = "C" := by decide +kernel
theorem next_ok {b n0 : Nat} {T M : Mem} {ss : List Stp} {name : Str} {Q : D → Mem → Prop} (h : DkIs b T M) (hb : b ≤ 900000) (hT : T[n0]? = some (.lst (ss.map stD))) (hs : SkOk ss) (hl : ss.length ≤ 16) {bw : Bool} (hnm : Az 1 8 name)
    (q : ∀ s M', s.n = name → Fit ss s → DkIs (b + 5) T M' → Q (stD s) M') : Go (f__law_next [.ref 1, .ref (n0 + 2), .str name, .lst ((wordsB bw).map .str)] M) Q := by
  have hn0 : n0 < T.length := (List.getElem?_eq_some_iff.mp hT).1
  rw [f__law_next, go_callD, show startD 11 [D.ref 1, .ref (n0 + 2), .str name, .lst ((wordsB bw).map .str)] = [some (.ref 1), some (.ref (n0 + 2)), some (.str name), some (.lst ((wordsB bw).map .str)), none, none, none, none, none, none, none] from rfl, m__law_next]
  rw [go_seq, go_set, go_call]
  simp only [go_cons, go_nil, go_c, go_var, List.set_cons_succ, List.set_cons_zero, List.getElem?_cons_zero, List.getElem?_cons_succ]
  refine ⟨rfl, pick_ok h (by omega) (by cases bw <;> decide) (by cases bw <;> decide) fun word M1 hw h1 => ?_⟩
  rw [go_seq, go_set, go_call]
  simp only [go_cons, go_nil, go_c, go_var, List.set_cons_succ, List.set_cons_zero, List.getElem?_cons_zero, List.getElem?_cons_succ]
  refine ⟨rfl, draw_ok h1 (by omega) (by decide) (by decide) fun spare M2 s0 s1 h2 => ?_⟩
  rw [go_seq, go_set, go_disp]
  simp only [go_pcons, go_pnil, go_c, go_lstC, go_nil, List.set_cons_succ, List.set_cons_zero]
  refine ⟨by decide, by decide, by decide, _, rfl, by show 3 ≤ 15; decide, ?_⟩
  rw [go_bdF]
  have h2l := h2.len
  have e1 : mergeD [] ((fun ks => ((.inr "P" : Key), D.ref M2.length) :: ks) ((fun ks => ((.inr "L" : Key), D.ref (M2 ++ [Cell.lst []]).length) :: ks) ((fun ks => ((.inr "C" : Key), D.ref (M2 ++ [Cell.lst []] ++ [Cell.lst []]).length) :: ks) []))) = leftK T.length := by
    show [((.inr "P" : Key), D.ref M2.length), (.inr "L", D.ref (M2 ++ [Cell.lst []]).length), (.inr "C", D.ref (M2 ++ [Cell.lst []] ++ [Cell.lst []]).length)] = leftK T.length
    simp only [List.length_append, h2l]
    rfl
  simp only [e1, List.set_cons_succ, List.set_cons_zero]
  have lf0 : Lf (b + 1 + 1) T ss [[], [], []] (M2 ++ [Cell.lst []] ++ [Cell.lst []] ++ [Cell.lst []]) := by
    refine ⟨?_, rfl, ?_, fun i l hl x hx => ?_⟩
    · have := ((DkIs.add (N := []) (by rw [List.append_nil]; exact h2) (.lst [])).add (.lst [])).add (.lst [])
      exact this
    · intro l hl
      rw [show l = [] by simpa using hl]
      decide
    · have : l ∈ ([[], [], []] : List (List Str)) := List.mem_of_getElem? hl
      rw [show l = [] by simpa using this] at hx
      cases hx
  generalize M2 ++ [Cell.lst []] ++ [Cell.lst []] ++ [Cell.lst []] = M3 at lf0
  have old : ∀ {b : Nat} {U : List (List Str)} {M' : Mem}, Lf b T ss U M' → M'[n0 + 2]? = some (.lst (ss.map stD)) := fun {b U M'} lf => by
    rw [lf.dk.old hn0]
    exact hT
  rw [go_seq, go_for, go_iter, go_var]
  simp only [List.getElem?_cons_zero, List.getElem?_cons_succ]
  have it : itemsOf (.ref (n0 + 2)) M3 = some ⟨ss.map stD, fun M' => M'[n0 + 2]? = some (.lst (ss.map stD))⟩ := by
    simp only [itemsOf, old lf0]
  refine ⟨_, it, ?_⟩
  refine go_loop (fun rem env M' => ∃ (post : List Stp) (U : List (List Str)) (x : Option D), rem = post.map stD ∧ (∀ s ∈ post, s ∈ ss) ∧ Lf (b + 1 + 1) T ss U M' ∧ (∀ l ∈ U, l.length + post.length ≤ 16) ∧ (U.flatten ++ post.map (·.n)).Nodup ∧
    env = [some (.ref 1), some (.ref (n0 + 2)), some (.str name), some (.lst ((wordsB bw).map .str)), some (.str word), some (.int spare), some (.dic (leftK T.length)), x, none, none, none]) ?_ ?_ _ _ _ ⟨ss, _, none, rfl, fun _ h => h, lf0, fun l hl' => by rw [show l = [] by simpa using hl']; exact Nat.le_trans (Nat.le_of_eq (Nat.zero_add _)) hl, hs.nd, rfl⟩
  · rintro d rem env M' ⟨post, U, x, e, hp, lf, hu, und, rfl⟩
    refine ⟨old lf, _, rfl, ?_⟩
    cases post with
    | nil => cases e
    | cons s post =>
      cases e
      have hs1 := hp s List.mem_cons_self
      have hp1 : ∀ s ∈ post, s ∈ ss := fun x hx => hp x (List.mem_cons_of_mem _ hx)
      simp only [go_seq, go_setItem, go_bin, go_un, go_var, go_c, go_test, go_andT, go_orT, go_notT, go_yes, go_andV, go_if, go_nil, go_cons, go_tup, go_lst, go_lstC, go_cb, go_call, go_callW, go_meth, go_noPart, go_part, go_sl, go_get, go_next, go_drop, go_ret, go_retN, go_ifS, go_set, go_for, go_lc, go_dc, go_iter, go_enum, go_rng, go_rng1, go_rng2, go_rng3, go_disp, go_pnil, go_pcons, go_bdT, go_bdF, go_ok, go_nx, go_rt, go_addI, go_addS, go_addT, go_addL, go_subI, go_mulI, go_mulL, go_modI, go_fdivI, go_powI, go_ltI, go_leI, go_gtI, go_geI, go_eqI, go_eqS, go_neI, go_neS, go_ixF, go_ixT, go_ixS, go_ixD, go_slT, go_slF, go_slR, go_slS, go_revF, go_revCF, go_revAT, go_revAL, List.getElem?_cons_zero, List.getElem?_cons_succ, List.set_cons_zero, List.set_cons_succ, List.length_cons, List.length_nil, D.int.injEq, D.bl.injEq, D.str.injEq, Option.some.injEq, exists_eq_left', go_listF, go_listT, go_tupleF, go_tupleT, go_lenF, go_lenT, go_lenS, go_isiS, go_isiI, go_intI, go_intB, go_maxI, it_lst, it_tupD, it_strD, en_lst, en_tup, fr_gN, wipeD, go_inTab, go_notInTab, go_tab, go_lc2, go_par2, go_par3, stD, at_0, at_1, true_and]
      refine sort_ok ?_
      obtain ⟨i, hi, ec, ei⟩ := left_sort (t := T.length) (w := s.w)
      obtain ⟨l, hU, hlU, hc⟩ := lf.at_ hi
      have := hu l hlU
      rw [List.length_cons] at this
      refine ⟨_, ei, isLst_ref hc, ?_⟩
      rw [go_append hc]
      refine ⟨by rw [List.length_map]; omega, post, U.set i (l ++ [s.n]), _, rfl, hp1, lf.put (by rw [List.map_append]; rfl) (by rw [List.length_append, List.length_singleton]; omega) ?_, ?_, ?_, rfl⟩
      · intro y hy
        rcases List.mem_append.mp hy with z | z
        · exact lf.srt i l hU y z
        · rw [show y = s.n by simpa using z]
          exact ⟨s, hs1, rfl, ec.symm⟩
      · intro k hk
        rcases List.mem_or_eq_of_mem_set hk with z | z
        · have := hu k z
          rw [List.length_cons] at this
          omega
        · rw [z, List.length_append, List.length_singleton]
          omega
      · have p1 := flat_perm (x := s.n) hU (List.perm_append_singleton s.n l)
        have p2 : ((U.set i (l ++ [s.n])).flatten ++ post.map (·.n)).Perm (U.flatten ++ (s :: post).map (·.n)) := (p1.append_right _).trans List.perm_middle.symm
        exact p2.nodup_iff.mpr und
  rintro env M4 ⟨post, U, x, e, hp, lf, hu, und, rfl⟩
  refine ⟨old lf, ?_⟩
  have nms := hs.nms
  have und0 : U.flatten.Nodup := (List.nodup_append.mp und).1
  have fin : ∀ {b' : Nat} {U' : List (List Str)} {M' : Mem} (s : Stp), b' ≤ b + 5 → Lf b' T ss U' M' → s.n = name → Fit ss s → Go (finish M (stD s) M') Q := fun {b' U' M'} s hb' lf' hsn hso =>
    go_fin_dk h (lf'.dk.mono hb') (frz_low (low_st _ s)) fun M2 h2 => q s M2 hsn hso h2
  have free : Fit ss ⟨"free", name, []⟩ := free_fit hnm
  rw [go_seq, go_ifS]
  simp only [go_test, go_bin, go_var, go_c, List.getElem?_cons_zero, List.getElem?_cons_succ, go_eqS, D.bl.injEq, exists_eq_left']
  split
  · rw [go_seq, go_set, go_call]
    simp only [go_cons, go_nil, go_var, List.getElem?_cons_zero, List.getElem?_cons_succ]
    refine ⟨rfl, others_ok (old lf) hs (by omega) fun ts ht htl => ?_⟩
    have lay : ∀ d ∈ ts.map tD3, layB d = true := fun d hd => by
      obtain ⟨t, ht', rfl⟩ := List.mem_map.mp hd
      obtain ⟨l, hl, c, hc, cw, e1, e2, ⟨m, eo⟩, th⟩ := ht t ht'
      have h1 : Nm 32 t.1 := by rw [e1]; exact nms l hl
      have h2 : Nm 32 t.2.1 := by rw [e2]; exact nms c hc
      have h3 : Nm 32 t.2.2 := by
        obtain ⟨x, y, e, _, hy⟩ := ((hs.mem hc).at cw (z := [80, 80]) (by decide +kernel)).two
        rw [eo] at e
        cases e
        obtain ⟨u, hu, e3, hu2⟩ := hy.str (by decide) (by decide)
        have e3 : t.2.2 = u.n := by injection e3
        rw [e3]
        exact nms u hu
      show ((PyData.strOk t.1 && (PyData.strOk t.2.1 && (PyData.strOk t.2.2 && true))) && decide (max 0 (max 0 (max 0 0)) + 1 ≤ 60)) = true
      rw [h1.strOk, h2.strOk, h3.strOk]
      rfl
    rw [go_ret, go_if]
    simp only [go_test, go_bin, go_var, go_lst, go_nil, List.set_cons_succ, List.set_cons_zero, List.getElem?_cons_zero, List.getElem?_cons_succ, go_neL lay, D.bl.injEq, exists_eq_left']
    refine ⟨by decide, ?_⟩
    split
    · next hne =>
      have tl : 0 < ts.length := by
        cases ts with
        | nil => exact absurd hne (by decide)
        | cons t ts => exact Nat.succ_pos _
      simp only [go_seq, go_setItem, go_bin, go_un, go_var, go_c, go_test, go_andT, go_orT, go_notT, go_yes, go_andV, go_if, go_nil, go_cons, go_tup, go_lst, go_lstC, go_cb, go_call, go_callW, go_meth, go_noPart, go_part, go_sl, go_get, go_next, go_drop, go_ret, go_retN, go_ifS, go_set, go_for, go_lc, go_dc, go_iter, go_enum, go_rng, go_rng1, go_rng2, go_rng3, go_disp, go_pnil, go_pcons, go_bdT, go_bdF, go_ok, go_nx, go_rt, go_addI, go_addS, go_addT, go_addL, go_subI, go_mulI, go_mulL, go_modI, go_fdivI, go_powI, go_ltI, go_leI, go_gtI, go_geI, go_eqI, go_eqS, go_neI, go_neS, go_ixF, go_ixT, go_ixS, go_ixD, go_slT, go_slF, go_slR, go_slS, go_revF, go_revCF, go_revAT, go_revAL, List.getElem?_cons_zero, List.getElem?_cons_succ, List.set_cons_zero, List.set_cons_succ, List.length_cons, List.length_nil, D.int.injEq, D.bl.injEq, D.str.injEq, Option.some.injEq, exists_eq_left', go_listF, go_listT, go_tupleF, go_tupleT, go_lenF, go_lenT, go_lenS, go_isiS, go_isiI, go_intI, go_intB, go_maxI, it_lst, it_tupD, it_strD, en_lst, en_tup, fr_gN, wipeD, go_inTab, go_notInTab, go_tab, go_lc2, go_par2, go_par3]
      have tn : ((ts.map tD3).length : Int) ≠ 0 := by rw [List.length_map]; omega
      have tp : (0 : Int) < ((ts.map tD3).length : Int) := by rw [List.length_map]; omega
      refine ⟨by decide, tn, ?_⟩
      obtain ⟨a, ha, ha2⟩ := atI_of (xs := ts.map tD3) (Int.fmod_nonneg_of_pos spare tp) (Int.fmod_lt_of_pos spare tp)
      rw [List.getElem?_map] at ha
      obtain ⟨t, ht1, rfl⟩ := Option.map_eq_some_iff.mp ha
      refine ⟨_, ha2, ?_⟩
      unfold tD3
      rw [go_addT]
      refine ⟨rfl, ?_⟩
      exact fin (⟨"other", name, [.s t.1, .s t.2.1, .s t.2.2]⟩ : Stp) (by omega) lf rfl ((ht t (List.mem_of_getElem? ht1)).fit hs hnm)
    · simp only [go_seq, go_setItem, go_bin, go_un, go_var, go_c, go_test, go_andT, go_orT, go_notT, go_yes, go_andV, go_if, go_nil, go_cons, go_tup, go_lst, go_lstC, go_cb, go_call, go_callW, go_meth, go_noPart, go_part, go_sl, go_get, go_next, go_drop, go_ret, go_retN, go_ifS, go_set, go_for, go_lc, go_dc, go_iter, go_enum, go_rng, go_rng1, go_rng2, go_rng3, go_disp, go_pnil, go_pcons, go_bdT, go_bdF, go_ok, go_nx, go_rt, go_addI, go_addS, go_addT, go_addL, go_subI, go_mulI, go_mulL, go_modI, go_fdivI, go_powI, go_ltI, go_leI, go_gtI, go_geI, go_eqI, go_eqS, go_neI, go_neS, go_ixF, go_ixT, go_ixS, go_ixD, go_slT, go_slF, go_slR, go_slS, go_revF, go_revCF, go_revAT, go_revAL, List.getElem?_cons_zero, List.getElem?_cons_succ, List.set_cons_zero, List.set_cons_succ, List.length_cons, List.length_nil, D.int.injEq, D.bl.injEq, D.str.injEq, Option.some.injEq, exists_eq_left', go_listF, go_listT, go_tupleF, go_tupleT, go_lenF, go_lenT, go_lenS, go_isiS, go_isiI, go_intI, go_intB, go_maxI, it_lst, it_tupD, it_strD, en_lst, en_tup, fr_gN, wipeD, go_inTab, go_notInTab, go_tab, go_lc2, go_par2, go_par3]
      exact ⟨by decide, fin ⟨"free", name, []⟩ (by omega) lf rfl free⟩
  next hno0 =>
  have hno : word ≠ "other" := by simpa using hno0
  rw [go_next, go_seq, go_set]
  simp only [go_tup, go_cons, go_nil, go_var, List.set_cons_succ, List.set_cons_zero, List.getElem?_cons_zero, List.getElem?_cons_succ, List.length_cons, List.length_nil]
  refine ⟨by decide, ?_⟩
  rw [go_seq, go_for, go_iter, go_bin, go_call, go_nil]
  refine ⟨rfl, forms_ok ?_⟩
  simp only [go_var, List.getElem?_cons_zero, List.getElem?_cons_succ, go_ixD]
  obtain ⟨z, ez, zf⟩ := forms_at bw word hw
  obtain ⟨zl, zc⟩ := formL_codes _ zf
  replace zl : z.cps.toList.length ≤ 3 := zl
  refine ⟨_, ez, _, rfl, ?_⟩
  refine go_loop (fun rem env M' => ∃ (cs : List Nat) (os : List O) (U : List (List Str)) (x y : Option D), rem = cs.map (fun c => .str ⟨#[c]⟩) ∧ os.length + cs.length = z.cps.toList.length ∧ (∀ c ∈ cs, c ∈ z.cps.toList) ∧ Lf (b + 1 + 1 + os.length) T ss U M' ∧
      (∃ dn, z.cps.toList = dn ++ cs ∧ All2 (ItemOk ss) dn os) ∧ (strsO os ++ U.flatten).Nodup ∧
      env = [some (.ref 1), some (.ref (n0 + 2)), some (.str name), some (.lst ((wordsB bw).map .str)), some (.str word), some (.int spare), some (.dic (leftK T.length)), x, some (.tup (.str word :: .str name :: os.map od)), y, none]) ?_ ?_ _ _ _ ⟨z.cps.toList, [], U, x, none, rfl, Nat.zero_add _, fun _ h => h, lf, ⟨[], rfl, .nil⟩, und0, rfl⟩
  · rintro d rem env M' ⟨cs, os, U, x, y, e, ho, hc, lf, ⟨dn, edn, ok⟩, ond, rfl⟩
    refine ⟨trivial, _, rfl, ?_⟩
    cases cs with
    | nil => cases e
    | cons c cs =>
      cases e
      rw [List.length_cons] at ho
      have hc0 := hc c List.mem_cons_self
      have hc1 : ∀ c ∈ cs, c ∈ z.cps.toList := fun x hx => hc x (List.mem_cons_of_mem _ hx)
      have add : ∀ {U' : List (List Str)} {M'' : Mem} (o : O), Lf (b + 1 + 1 + os.length + 1) T ss U' M'' → ItemOk ss c o → (strsO (os ++ [o]) ++ U'.flatten).Nodup →
          ∃ (cs' : List Nat) (os' : List O) (U : List (List Str)) (x' y' : Option D), cs.map (fun c => D.str ⟨#[c]⟩) = cs'.map (fun c => D.str ⟨#[c]⟩) ∧ os'.length + cs'.length = z.cps.toList.length ∧ (∀ c ∈ cs', c ∈ z.cps.toList) ∧ Lf (b + 1 + 1 + os'.length) T ss U M'' ∧
            (∃ dn, z.cps.toList = dn ++ cs' ∧ All2 (ItemOk ss) dn os') ∧ (strsO os' ++ U.flatten).Nodup ∧
            ([some (.ref 1), some (.ref (n0 + 2)), some (.str name), some (.lst ((wordsB bw).map .str)), some (.str word), some (.int spare), some (.dic (leftK T.length)), x, some (.tup (.str word :: .str name :: os.map od ++ [od o])), some (.str ⟨#[c]⟩), none] : Ly.Env) = [some (.ref 1), some (.ref (n0 + 2)), some (.str name), some (.lst ((wordsB bw).map .str)), some (.str word), some (.int spare), some (.dic (leftK T.length)), x', some (.tup (.str word :: .str name :: os'.map od)), y', none] := fun {U' M''} o lf' o1 o2 =>
        ⟨cs, os ++ [o], U', x, _, rfl, by rw [List.length_append, List.length_singleton]; omega, hc1, by rw [List.length_append, List.length_singleton]; exact lf', ⟨dn ++ [c], by rw [edn]; simp, ok.snoc o1⟩, o2, by rw [List.map_append]; rfl⟩
      simp only [List.set_cons_succ, List.set_cons_zero]
      have ol : os.length ≤ 3 := by omega
      have lf1 : Lf (b + 1 + 1 + os.length + 1) T ss U M' := ⟨lf.dk.mono (by omega), lf.len, lf.sm, lf.srt⟩
      have szt : ∀ o : O, szOk ((D.str word :: D.str name :: os.map od).length + [od o].length) = true := fun o => decide_eq_true (by
        rw [List.length_cons, List.length_cons, List.length_map, List.length_singleton]
        omega)
      have draw : ∀ i : Nat, i < 3 → codeAt i = c → (keyOf (.str (sg c))).bind (valD (leftK T.length)) = some (.ref (T.length + i + 2)) → GoS (mIfS (mTest (mBin opEq (mBin opIx (mVar 6) (mVar 9)) (mLst mNil))) (mRet (mTup (mCons (mC (.str "free")) (mCons (mVar 2) mNil)))) (mAsg (mBin opAdd (mVar 8) (mTup (mCons (mMeth isLst fPopAt (mBin opIx (mVar 6) (mVar 9)) (mCons (mCall 2 f__law_draw (mCons (mVar 0) (mCons (mCB fLen (mCons (mBin opIx (mVar 6) (mVar 9)) mNil)) mNil))) mNil)) mNil))) (gN 8))
          [some (.ref 1), some (.ref (n0 + 2)), some (.str name), some (.lst ((wordsB bw).map .str)), some (.str word), some (.int spare), some (.dic (leftK T.length)), x, some (.tup (.str word :: .str name :: os.map od)), some (.str ⟨#[c]⟩), none] M')
          (fun e2 M2 => ∃ (cs' : List Nat) (os' : List O) (U : List (List Str)) (x' y' : Option D), cs.map (fun c => D.str ⟨#[c]⟩) = cs'.map (fun c => D.str ⟨#[c]⟩) ∧ os'.length + cs'.length = z.cps.toList.length ∧ (∀ c ∈ cs', c ∈ z.cps.toList) ∧ Lf (b + 1 + 1 + os'.length) T ss U M2 ∧
            (∃ dn, z.cps.toList = dn ++ cs' ∧ All2 (ItemOk ss) dn os') ∧ (strsO os' ++ U.flatten).Nodup ∧
            e2 = [some (.ref 1), some (.ref (n0 + 2)), some (.str name), some (.lst ((wordsB bw).map .str)), some (.str word), some (.int spare), some (.dic (leftK T.length)), x', some (.tup (.str word :: .str name :: os'.map od)), y', none])
          (fun d M' => Go (finish M d M') Q) := by
        intro i hi ec ei
        obtain ⟨l, hU, hlU, hc⟩ := lf.at_ hi
        have lay : ∀ d ∈ l.map D.str, layB d = true := fun d hd => by
          obtain ⟨w, hw, rfl⟩ := List.mem_map.mp hd
          obtain ⟨t, ht, e, _⟩ := lf.srt i l hU w hw
          rw [← e]
          exact lay_str (nms t ht)
        have ll := lf.sm l hlU
        simp only [go_seq, go_setItem, go_bin, go_un, go_var, go_c, go_test, go_andT, go_orT, go_notT, go_yes, go_andV, go_if, go_nil, go_cons, go_tup, go_lst, go_lstC, go_cb, go_call, go_callW, go_meth, go_noPart, go_part, go_sl, go_get, go_next, go_drop, go_ret, go_retN, go_ifS, go_set, go_for, go_lc, go_dc, go_iter, go_enum, go_rng, go_rng1, go_rng2, go_rng3, go_disp, go_pnil, go_pcons, go_bdT, go_bdF, go_ok, go_nx, go_rt, go_addI, go_addS, go_addT, go_addL, go_subI, go_mulI, go_mulL, go_modI, go_fdivI, go_powI, go_ltI, go_leI, go_gtI, go_geI, go_eqI, go_eqS, go_neI, go_neS, go_ixF, go_ixT, go_ixS, go_ixD, go_slT, go_slF, go_slR, go_slS, go_revF, go_revCF, go_revAT, go_revAL, List.getElem?_cons_zero, List.getElem?_cons_succ, List.set_cons_zero, List.set_cons_succ, List.length_cons, List.length_nil, D.int.injEq, D.bl.injEq, D.str.injEq, Option.some.injEq, exists_eq_left', go_listF, go_listT, go_tupleF, go_tupleT, go_lenF, go_lenT, go_lenS, go_isiS, go_isiI, go_intI, go_intB, go_maxI, it_lst, it_tupD, it_strD, en_lst, en_tup, fr_gN, wipeD, go_inTab, go_notInTab, go_tab, go_lc2, go_par2, go_par3, show (keyOf (.str ⟨#[c]⟩)).bind (valD (leftK T.length)) = some (.ref (T.length + i + 2)) from ei, go_eqC hc lay]
        refine ⟨by decide, ?_⟩
        split
        · exact ⟨by decide, fin ⟨"free", name, []⟩ (by omega) lf rfl free⟩
        · next hne =>
          have lp : 0 < l.length := by
            cases l with
            | nil => exact absurd rfl hne
            | cons a l => exact Nat.succ_pos _
          rw [isLst_ref hc, go_lenC hc]
          refine ⟨rfl, trivial, draw_ok lf.dk (by omega) (by rw [List.length_map]; omega) (by rw [List.length_map]; omega) fun r M5 r0 r1 h5 => ?_⟩
          have lf5 : Lf (b + 1 + 1 + os.length + 1) T ss U M5 := ⟨h5, lf.len, lf.sm, lf.srt⟩
          obtain ⟨l', hU', hlU', hc'⟩ := lf5.at_ hi
          rw [hU] at hU'
          cases hU'
          rw [List.length_map] at r1
          obtain ⟨a, ha⟩ : ∃ a, l[r.toNat]? = some a := ⟨_, List.getElem?_eq_getElem (by omega)⟩
          have hal := List.mem_of_getElem? ha
          rw [go_popAt hc']
          refine ⟨⟨r0, by rw [List.length_map]; exact r1, decide_eq_true (by rw [List.length_map]; omega)⟩, .str a, by rw [List.getElem?_map, ha]; rfl, by decide, ?_⟩
          refine ⟨szt (.s a), ?_⟩
          obtain ⟨u, hu, eu, su⟩ := lf.srt i l hU a hal
          refine add (.s a) (lf5.put (l := l.eraseIdx r.toNat) (erase_map D.str l r.toNat) (Nat.le_trans (List.length_eraseIdx_le ..) ll) fun y hy => lf.srt i l hU y (List.mem_of_mem_eraseIdx hy)) ?_ ?_
          · rw [← eu, ← ec, ← su]
            exact .s hu
          · have p := flat_erase hU ha
            have e : strsO (os ++ [.s a]) = strsO os ++ [a] := by
              unfold strsO
              rw [List.filterMap_append]
              rfl
            rw [e, List.append_assoc]
            exact (p.append_left (strsO os)).nodup_iff.mp ond
      rcases zc c hc0 with rfl | rfl | rfl | rfl | rfl
      · rw [go_ifS]
        simp only [go_test, go_bin, go_var, go_c, List.getElem?_cons_zero, List.getElem?_cons_succ, go_eqS, D.bl.injEq, exists_eq_left', show decide ((⟨#[80]⟩ : Str) = "n") = false from sg_n.2.2.1, if_false, Bool.false_eq_true]
        rw [go_ifS]
        simp only [go_test, go_bin, go_var, go_c, List.getElem?_cons_zero, List.getElem?_cons_succ, go_eqS, D.bl.injEq, exists_eq_left', show decide ((⟨#[80]⟩ : Str) = "k") = false from sg_k.2.1, if_false, Bool.false_eq_true]
        exact draw 0 (by decide) rfl (by rw [sg_p.1]; rfl)
      · rw [go_ifS]
        simp only [go_test, go_bin, go_var, go_c, List.getElem?_cons_zero, List.getElem?_cons_succ, go_eqS, D.bl.injEq, exists_eq_left', show decide ((⟨#[76]⟩ : Str) = "n") = false from sg_n.2.2.2.1, if_false, Bool.false_eq_true]
        rw [go_ifS]
        simp only [go_test, go_bin, go_var, go_c, List.getElem?_cons_zero, List.getElem?_cons_succ, go_eqS, D.bl.injEq, exists_eq_left', show decide ((⟨#[76]⟩ : Str) = "k") = false from sg_k.2.2.1, if_false, Bool.false_eq_true]
        exact draw 1 (by decide) rfl (by rw [sg_p.2.1]; rfl)
      · rw [go_ifS]
        simp only [go_test, go_bin, go_var, go_c, List.getElem?_cons_zero, List.getElem?_cons_succ, go_eqS, D.bl.injEq, exists_eq_left', show decide ((⟨#[67]⟩ : Str) = "n") = false from sg_n.2.2.2.2, if_false, Bool.false_eq_true]
        rw [go_ifS]
        simp only [go_test, go_bin, go_var, go_c, List.getElem?_cons_zero, List.getElem?_cons_succ, go_eqS, D.bl.injEq, exists_eq_left', show decide ((⟨#[67]⟩ : Str) = "k") = false from sg_k.2.2.2, if_false, Bool.false_eq_true]
        exact draw 2 (by decide) rfl (by rw [sg_p.2.2]; rfl)
      · rw [go_ifS]
        simp only [go_test, go_bin, go_var, go_c, List.getElem?_cons_zero, List.getElem?_cons_succ, go_eqS, D.bl.injEq, exists_eq_left', show decide ((⟨#[110]⟩ : Str) = "n") = true from sg_n.1, if_true]
        simp only [go_seq, go_setItem, go_bin, go_un, go_var, go_c, go_test, go_andT, go_orT, go_notT, go_yes, go_andV, go_if, go_nil, go_cons, go_tup, go_lst, go_lstC, go_cb, go_call, go_callW, go_meth, go_noPart, go_part, go_sl, go_get, go_next, go_drop, go_ret, go_retN, go_ifS, go_set, go_for, go_lc, go_dc, go_iter, go_enum, go_rng, go_rng1, go_rng2, go_rng3, go_disp, go_pnil, go_pcons, go_bdT, go_bdF, go_ok, go_nx, go_rt, go_addI, go_addS, go_addT, go_addL, go_subI, go_mulI, go_mulL, go_modI, go_fdivI, go_powI, go_ltI, go_leI, go_gtI, go_geI, go_eqI, go_eqS, go_neI, go_neS, go_ixF, go_ixT, go_ixS, go_ixD, go_slT, go_slF, go_slR, go_slS, go_revF, go_revCF, go_revAT, go_revAL, List.getElem?_cons_zero, List.getElem?_cons_succ, List.set_cons_zero, List.set_cons_succ, List.length_cons, List.length_nil, D.int.injEq, D.bl.injEq, D.str.injEq, Option.some.injEq, exists_eq_left', go_listF, go_listT, go_tupleF, go_tupleT, go_lenF, go_lenT, go_lenS, go_isiS, go_isiI, go_intI, go_intB, go_maxI, it_lst, it_tupD, it_strD, en_lst, en_tup, fr_gN, wipeD, go_inTab, go_notInTab, go_tab, go_lc2, go_par2, go_par3]
        have f1 := Int.fmod_nonneg_of_pos spare (show (0 : Int) < 3 by decide)
        have f2 := Int.fmod_lt_of_pos spare (show (0 : Int) < 3 by decide)
        refine ⟨by decide, by decide, szt (.i (1 + spare.fmod 3)), add (.i (1 + spare.fmod 3)) lf1 (.n (by omega) (by omega)) ?_⟩
        have e : strsO (os ++ [.i (1 + spare.fmod 3)]) = strsO os := by
          unfold strsO
          rw [List.filterMap_append]
          exact List.append_nil _
        rw [e]
        exact ond
      · rw [go_ifS]
        simp only [go_test, go_bin, go_var, go_c, List.getElem?_cons_zero, List.getElem?_cons_succ, go_eqS, D.bl.injEq, exists_eq_left', show decide ((⟨#[107]⟩ : Str) = "n") = false from sg_n.2.1, if_false, Bool.false_eq_true]
        rw [go_ifS]
        simp only [go_test, go_bin, go_var, go_c, List.getElem?_cons_zero, List.getElem?_cons_succ, go_eqS, D.bl.injEq, exists_eq_left', show decide ((⟨#[107]⟩ : Str) = "k") = true from sg_k.1, if_true]
        simp only [go_seq, go_setItem, go_bin, go_un, go_var, go_c, go_test, go_andT, go_orT, go_notT, go_yes, go_andV, go_if, go_nil, go_cons, go_tup, go_lst, go_lstC, go_cb, go_call, go_callW, go_meth, go_noPart, go_part, go_sl, go_get, go_next, go_drop, go_ret, go_retN, go_ifS, go_set, go_for, go_lc, go_dc, go_iter, go_enum, go_rng, go_rng1, go_rng2, go_rng3, go_disp, go_pnil, go_pcons, go_bdT, go_bdF, go_ok, go_nx, go_rt, go_addI, go_addS, go_addT, go_addL, go_subI, go_mulI, go_mulL, go_modI, go_fdivI, go_powI, go_ltI, go_leI, go_gtI, go_geI, go_eqI, go_eqS, go_neI, go_neS, go_ixF, go_ixT, go_ixS, go_ixD, go_slT, go_slF, go_slR, go_slS, go_revF, go_revCF, go_revAT, go_revAL, List.getElem?_cons_zero, List.getElem?_cons_succ, List.set_cons_zero, List.set_cons_succ, List.length_cons, List.length_nil, D.int.injEq, D.bl.injEq, D.str.injEq, Option.some.injEq, exists_eq_left', go_listF, go_listT, go_tupleF, go_tupleT, go_lenF, go_lenT, go_lenS, go_isiS, go_isiI, go_intI, go_intB, go_maxI, it_lst, it_tupD, it_strD, en_lst, en_tup, fr_gN, wipeD, go_inTab, go_notInTab, go_tab, go_lc2, go_par2, go_par3]
        have f1 := Int.fmod_nonneg_of_pos spare (show (0 : Int) < 2 by decide)
        have f2 := Int.fmod_lt_of_pos spare (show (0 : Int) < 2 by decide)
        refine ⟨by decide, by decide, szt (.i (spare.fmod 2)), add (.i (spare.fmod 2)) lf1 (.k (by omega) (by omega)) ?_⟩
        have e : strsO (os ++ [.i (spare.fmod 2)]) = strsO os := by
          unfold strsO
          rw [List.filterMap_append]
          exact List.append_nil _
        rw [e]
        exact ond
  · rintro env M' ⟨cs, os, U, x, y, e, ho, hc, lf, ⟨dn, edn, ok⟩, ond, rfl⟩
    refine ⟨trivial, ?_⟩
    have e0 : cs = [] := by
      cases cs with
      | nil => rfl
      | cons c cs => cases e
    subst e0
    rw [List.length_nil] at ho
    simp only [go_ret, go_var, List.getElem?_cons_zero, List.getElem?_cons_succ]
    rw [List.append_nil] at edn
    exact fin ⟨word, name, os⟩ (by omega) lf rfl ⟨hnm, ⟨_, zf, by rw [edn]; exact ok⟩, (List.nodup_append.mp ond).1, fun z => absurd z hno⟩
end Sk

namespace Sk
open PySem PySem.Spec PyProof.Rows L2 Ly
structure Good (xs : List Str) (ss : List Stp) : Prop where
  ok : SkOk ss
  ns : ss.map (·.n) = xs.take ss.length
  le : ss.length ≤ 16
  two : ∀ (i : Nat) (s : Stp), i < 2 → ss[i]? = some s → s.w = "free" ∧ s.os = []
theorem Good.snoc {xs : List Str} {ss : List Stp} {s : Stp} (nd : xs.Nodup) (h : Good xs ss) (hs : Fit ss s) (hx : xs[ss.length]? = some s.n) (hl : ss.length < 16) (h2 : ss.length < 2 → s.w = "free" ∧ s.os = []) : Good xs (ss ++ [s]) := by
  refine ⟨h.ok.snoc hs ?_, ?_, by rw [List.length_append, List.length_singleton]; omega, fun i t hi ht => ?_⟩
  · rw [h.ns]
    intro z
    obtain ⟨i, hi⟩ := List.mem_iff_getElem?.mp z
    have hlt : i < ss.length := by
      have := (List.getElem?_eq_some_iff.mp hi).1
      rw [List.length_take] at this
      omega
    rw [List.getElem?_take_of_lt hlt] at hi
    have := nodup_at nd hi hx
    omega
  · rw [List.map_append, h.ns, List.length_append, List.length_singleton, List.take_succ, hx]
    rfl
  · by_cases hlt : i < ss.length
    · rw [List.getElem?_append_left hlt] at ht
      exact h.two i t hi ht
    · rw [List.getElem?_append_right (by omega)] at ht
      have : i - ss.length = 0 := by
        have := (List.getElem?_eq_some_iff.mp ht).1
        rw [List.length_singleton] at this
        omega
      rw [this] at ht
      cases ht
      exact h2 (by omega)
theorem Good.take {xs : List Str} {ss : List Stp} (h : Good xs ss) (k : Nat) : Good xs (ss.take k) := by
  refine ⟨h.ok.take k, ?_, by rw [List.length_take]; have := h.le; omega, fun i s hi hs => ?_⟩
  · rw [List.map_take, h.ns, List.take_take, List.length_take]
  · have hk : i < k := by
      have := (List.getElem?_eq_some_iff.mp hs).1
      rw [List.length_take] at this
      omega
    rw [List.getElem?_take_of_lt hk] at hs
    exact h.two i s hi hs
theorem Good.nil {xs : List Str} : Good xs [] := ⟨SkOk.nil, rfl, by decide, fun i s _ h => by simp at h⟩
theorem low_sts (k : Nat) : ∀ ss : List Stp, lowL k (ss.map stD) = true
  | [] => rfl
  | s :: ss => by
    show ((stD s).low k && lowL k (ss.map stD)) = true
    rw [low_st, low_sts k ss]
    rfl
theorem range_at {m i j : Nat} {r : List Nat} (h : (List.range m).drop i = j :: r) : j = i ∧ r = (List.range m).drop (i + 1) ∧ i < m := by
  have hi : i < m := by
    have : ((List.range m).drop i).length = (j :: r).length := by rw [h]
    rw [List.length_drop, List.length_range, List.length_cons] at this
    omega
  have e : (List.range m).drop i = i :: (List.range m).drop (i + 1) := by
    rw [List.drop_eq_getElem_cons (by rw [List.length_range]; exact hi), List.getElem_range]
  rw [e] at h
  cases h
  exact ⟨rfl, rfl, hi⟩
theorem form_line : (("line" : Str), [80, 80]) ∈ formL := by decide +kernel
theorem form_circle : (("circle" : Str), [80, 80]) ∈ formL := by decide +kernel
theorem sort_free : sortC "free" = 80 := by decide +kernel
theorem split3 {xs : List Str} (h : xs.length = 16) : ∃ a b c r, xs = a :: b :: c :: r := by
  match xs, h with
  | a :: b :: c :: r, _ => exact ⟨a, b, c, r, rfl⟩
theorem good3 {a b c : Str} {r : List Str} (nd : (a :: b :: c :: r).Nodup) (ha : Az 1 8 a) (hb : Az 1 8 b) (hc : Az 1 8 c) {w : Str} (hw : (w, [80, 80]) ∈ formL) (hno : w ≠ "other") {p q : Str} (hp : (p = a ∧ q = b) ∨ (p = b ∧ q = a)) : Good (a :: b :: c :: r) [⟨"free", a, []⟩, ⟨"free", b, []⟩, ⟨w, c, [.s p, .s q]⟩] := by
  have g1 : Good (a :: b :: c :: r) [⟨"free", a, []⟩] := Good.nil.snoc nd (free_fit ha) rfl (by decide) fun _ => ⟨rfl, rfl⟩
  have g2 : Good (a :: b :: c :: r) [⟨"free", a, []⟩, ⟨"free", b, []⟩] := g1.snoc (s := ⟨"free", b, []⟩) nd (free_fit hb) rfl (by show 1 < 16; decide) fun _ => ⟨rfl, rfl⟩
  have nab : a ≠ b := fun z => by
    rw [z] at nd
    simp at nd
  have ia : ItemOk [⟨"free", a, []⟩, ⟨"free", b, []⟩] 80 (.s a) := by
    rw [← sort_free]
    exact ItemOk.s (t := ⟨"free", a, []⟩) List.mem_cons_self
  have ib : ItemOk [⟨"free", a, []⟩, ⟨"free", b, []⟩] 80 (.s b) := by
    rw [← sort_free]
    exact ItemOk.s (t := ⟨"free", b, []⟩) (List.mem_cons_of_mem _ List.mem_cons_self)
  refine g2.snoc (s := ⟨w, c, [.s p, .s q]⟩) nd ⟨hc, ⟨[80, 80], hw, .cons ?_ (.cons ?_ .nil)⟩, ?_, fun z => absurd z hno⟩ rfl (by show 2 < 16; decide) (fun z => absurd z (by show ¬ 2 < 2; decide))
  · rcases hp with ⟨rfl, rfl⟩ | ⟨rfl, rfl⟩
    · exact ia
    · exact ib
  · rcases hp with ⟨rfl, rfl⟩ | ⟨rfl, rfl⟩
    · exact ib
    · exact ia
  · show [p, q].Nodup
    rcases hp with ⟨rfl, rfl⟩ | ⟨rfl, rfl⟩
    · simp [nab]
    · simp [Ne.symm nab]
theorem at_2 {α : Type} {x y z : α} {xs : List α} : atI (x :: y :: z :: xs) 2 = some z := Ly.atI_nat (n := 2) rfl
noncomputable def skTail : MS := (mSeq (mFor (mRng rng2 (mCons (mC (.int 3)) (mCons (mCB fMax2 (mCons (mC (.int 3)) (mCons (mVar 2) mNil))) mNil))) (gN 5) (mDrop (mMeth isLst fAppend (mVar 4) (mCons (mCall 4 f__law_next (mCons (mVar 0) (mCons (mVar 4) (mCons (mBin opIx (mVar 1) (mVar 5)) (mCons (mVar 3) mNil))))) mNil))))
  (mRet (mCB fTuple (mCons (mSl (mVar 4) mNoPart (mPart (mVar 2))) mNil))))
theorem sk_tail {b : Nat} {T M M1 : Mem} {xs : List Str} {many : Int} {ss : List Stp} {Q : D → Mem → Prop} (h : DkIs b T M) (hb : b ≤ 800000) (hx : NamesOk xs) {bw : Bool} (m0 : 0 ≤ many) (m1 : many ≤ 14) (g : Good xs ss) (gl : ss.length = 3) (h1 : DkIs (b + 1) (T ++ [.lst (ss.map stD)]) M1)
    (q : ∀ ss M', Good xs ss → ss.length = many.toNat → DkIs (b + 60) T M' → Q (.tup (ss.map stD)) M') :
    GoS (skTail [some (.ref 1), some (.lst (xs.map .str)), some (.int many), some (.lst ((wordsB bw).map .str)), some (.ref (T.length + 0 + 2)), none] M1) (fun _ M' => Go (finish M .non M') Q) fun d M' => Go (finish M d M') Q := by
  rw [skTail, go_seq, go_for]
  simp only [go_bin, go_un, go_var, go_c, go_test, go_andT, go_orT, go_notT, go_yes, go_andV, go_if, go_nil, go_cons, go_tup, go_lst, go_lstC, go_cb, go_call, go_callW, go_meth, go_noPart, go_part, go_sl, go_get, go_retN, go_lc, go_dc, go_iter, go_enum, go_rng, go_rng1, go_rng2, go_rng3, go_disp, go_pnil, go_pcons, go_bdT, go_bdF, go_ok, go_nx, go_rt, go_addI, go_addS, go_addT, go_addL, go_subI, go_mulI, go_mulL, go_modI, go_fdivI, go_powI, go_ltI, go_leI, go_gtI, go_geI, go_eqI, go_eqS, go_neI, go_neS, go_ixF, go_ixT, go_ixS, go_ixD, go_slT, go_slF, go_slR, go_slS, go_revF, go_revCF, go_revAT, go_revAL, List.getElem?_cons_zero, List.getElem?_cons_succ, List.set_cons_zero, List.set_cons_succ, List.length_cons, List.length_nil, D.int.injEq, D.bl.injEq, D.str.injEq, Option.some.injEq, exists_eq_left', go_listF, go_listT, go_tupleF, go_tupleT, go_lenF, go_lenT, go_lenS, go_isiS, go_isiI, go_intI, go_intB, go_maxI, it_lst, it_tupD, it_strD, en_lst, en_tup, fr_gN, wipeD, go_inTab, go_notInTab, go_tab, go_lc2, go_par2, go_par3]
  refine ⟨⟨rngOk_of (by decide) (by decide), rngOk_of (by split <;> omega) (by split <;> omega)⟩, ?_⟩
  have hm : ((if many > 3 then many else 3) - 3).toNat = many.toNat - 3 := by
    split <;> omega
  rw [hm]
  refine go_loop (fun rem env M' => ∃ (i : Nat) (ss : List Stp) (x : Option D), rem = ((List.range (many.toNat - 3)).drop i).map (fun n => .int (3 + (n : Nat))) ∧ i ≤ many.toNat - 3 ∧ Good xs ss ∧ ss.length = 3 + i ∧ DkIs (b + 1 + 5 * i) (T ++ [.lst (ss.map stD)]) M' ∧
    env = [some (.ref 1), some (.lst (xs.map .str)), some (.int many), some (.lst ((wordsB bw).map .str)), some (.ref (T.length + 0 + 2)), x]) ?_ ?_ _ _ _ ⟨0, ss, none, rfl, Nat.zero_le _, g, gl, h1, rfl⟩
  · rintro d rem env M' ⟨i, ss, x, e, hi, g, gl, h1, rfl⟩
    refine ⟨trivial, _, rfl, ?_⟩
    cases er : (List.range (many.toNat - 3)).drop i with
    | nil =>
      rw [er] at e
      cases e
    | cons j r =>
      rw [er] at e
      obtain ⟨rfl, rfl, hlt⟩ := range_at er
      cases e
      rw [go_drop]
      obtain ⟨nm, hnm⟩ : ∃ nm, xs[3 + j]? = some nm := ⟨_, List.getElem?_eq_getElem (by rw [hx.len]; omega)⟩
      have ai : atI (xs.map D.str) (3 + (j : Int)) = some (.str nm) := by
        rw [show (3 + (j : Int)) = ((3 + j : Nat) : Int) by omega]
        exact Ly.atI_nat (by rw [List.getElem?_map, hnm]; rfl)
      have hc : M'[T.length + 0 + 2]? = some (.lst (ss.map stD)) := (h1.new 0).trans rfl
      simp only [go_bin, go_un, go_var, go_c, go_test, go_andT, go_orT, go_notT, go_yes, go_andV, go_if, go_nil, go_cons, go_tup, go_lst, go_lstC, go_cb, go_call, go_callW, go_meth, go_noPart, go_part, go_sl, go_get, go_retN, go_lc, go_dc, go_iter, go_enum, go_rng, go_rng1, go_rng2, go_rng3, go_disp, go_pnil, go_pcons, go_bdT, go_bdF, go_ok, go_nx, go_rt, go_addI, go_addS, go_addT, go_addL, go_subI, go_mulI, go_mulL, go_modI, go_fdivI, go_powI, go_ltI, go_leI, go_gtI, go_geI, go_eqI, go_eqS, go_neI, go_neS, go_ixF, go_ixT, go_ixS, go_ixD, go_slT, go_slF, go_slR, go_slS, go_revF, go_revCF, go_revAT, go_revAL, List.getElem?_cons_zero, List.getElem?_cons_succ, List.set_cons_zero, List.set_cons_succ, List.length_cons, List.length_nil, D.int.injEq, D.bl.injEq, D.str.injEq, Option.some.injEq, exists_eq_left', go_listF, go_listT, go_tupleF, go_tupleT, go_lenF, go_lenT, go_lenS, go_isiS, go_isiI, go_intI, go_intB, go_maxI, it_lst, it_tupD, it_strD, en_lst, en_tup, fr_gN, wipeD, go_inTab, go_notInTab, go_tab, go_lc2, go_par2, go_par3, ai, isLst_ref hc, true_and]
      refine next_ok h1 (by omega) (n0 := T.length + 0) (ss := ss) (by rw [List.getElem?_append_right (by omega)]; simp) g.ok (by omega) (hx.az nm (List.mem_of_getElem? hnm)) fun s M2 hsn hso h2 => ?_
      have hc2 : M2[T.length + 0 + 2]? = some (.lst (ss.map stD)) := (h2.new 0).trans rfl
      rw [go_append hc2]
      refine ⟨by rw [List.length_map]; omega, j + 1, ss ++ [s], _, rfl, by omega, g.snoc hx.nd hso (by rw [gl, hnm, hsn]) (by omega) (fun z => by omega), by rw [List.length_append, List.length_singleton]; omega, ?_, rfl⟩
      have := h2.put 0 (.lst (ss.map stD ++ [stD s]))
      rw [show ss.map stD ++ [stD s] = (ss ++ [s]).map stD by rw [List.map_append]; rfl] at this ⊢
      exact this.mono (by omega)
  · rintro env M' ⟨i, ss, x, e, hi, g, gl, h1, rfl⟩
    refine ⟨trivial, ?_⟩
    have he : i = many.toNat - 3 := by
      have : ([] : List D).length = (((List.range (many.toNat - 3)).drop i).map (fun n => D.int (3 + (n : Nat)))).length := by rw [← e]
      rw [List.length_map, List.length_drop, List.length_range, List.length_nil] at this
      omega
    have hc : M'[T.length + 0 + 2]? = some (.lst (ss.map stD)) := (h1.new 0).trans rfl
    rw [go_ret]
    obtain ⟨mn, hmn⟩ : ∃ n : Nat, many = n := ⟨many.toNat, by omega⟩
    simp only [go_bin, go_un, go_var, go_c, go_test, go_andT, go_orT, go_notT, go_yes, go_andV, go_if, go_nil, go_cons, go_tup, go_lst, go_lstC, go_cb, go_call, go_callW, go_meth, go_noPart, go_part, go_sl, go_get, go_retN, go_lc, go_dc, go_iter, go_enum, go_rng, go_rng1, go_rng2, go_rng3, go_disp, go_pnil, go_pcons, go_bdT, go_bdF, go_ok, go_nx, go_rt, go_addI, go_addS, go_addT, go_addL, go_subI, go_mulI, go_mulL, go_modI, go_fdivI, go_powI, go_ltI, go_leI, go_gtI, go_geI, go_eqI, go_eqS, go_neI, go_neS, go_ixF, go_ixT, go_ixS, go_ixD, go_slT, go_slF, go_slR, go_slS, go_revF, go_revCF, go_revAT, go_revAL, List.getElem?_cons_zero, List.getElem?_cons_succ, List.set_cons_zero, List.set_cons_succ, List.length_cons, List.length_nil, D.int.injEq, D.bl.injEq, D.str.injEq, Option.some.injEq, exists_eq_left', go_listF, go_listT, go_tupleF, go_tupleT, go_lenF, go_lenT, go_lenS, go_isiS, go_isiI, go_intI, go_intB, go_maxI, it_lst, it_tupD, it_strD, en_lst, en_tup, fr_gN, wipeD, go_inTab, go_notInTab, go_tab, go_lc2, go_par2, go_par3, go_slC hc, hmn, cut_to, ← List.map_take]
    refine go_fin_dk h (h1.mono (b' := b + 60) (by omega)) (frz_low ?_) fun M2 h2 => q _ M2 (g.take mn) ?_ h2
    · show lowL _ _ = true
      exact low_sts _ _
    · rw [List.length_take, hmn]
      omega
theorem sketch_ok {b : Nat} {T M : Mem} {xs : List Str} {many : Int} {Q : D → Mem → Prop} (h : DkIs b T M) (hb : b ≤ 800000) (hx : NamesOk xs) {bw : Bool} (m0 : 0 ≤ many) (m1 : many ≤ 14)
    (q : ∀ ss M', Good xs ss → ss.length = many.toNat → DkIs (b + 60) T M' → Q (.tup (ss.map stD)) M') : Go (f__law_sketch [.ref 1, .lst (xs.map .str), .int many, .lst ((wordsB bw).map .str)] M) Q := by
  rw [f__law_sketch, go_callD, show startD 6 [D.ref 1, .lst (xs.map .str), .int many, .lst ((wordsB bw).map .str)] = [some (.ref 1), some (.lst (xs.map .str)), some (.int many), some (.lst ((wordsB bw).map .str)), none, none] from rfl, m__law_sketch]
  obtain ⟨x0, x1, x2, xr, e⟩ := split3 hx.len
  have n0 : Az 1 8 x0 := hx.az x0 (by rw [e]; simp)
  have n1 : Az 1 8 x1 := hx.az x1 (by rw [e]; simp)
  have n2 : Az 1 8 x2 := hx.az x2 (by rw [e]; simp)
  have i0 : atI (xs.map D.str) 0 = some (.str x0) := by rw [e]; exact at_0
  have i1 : atI (xs.map D.str) 1 = some (.str x1) := by rw [e]; exact at_1
  have i2 : atI (xs.map D.str) 2 = some (.str x2) := by rw [e]; exact at_2
  rw [go_seq, go_set, go_lstC]
  simp only [go_bin, go_un, go_var, go_c, go_test, go_andT, go_orT, go_notT, go_yes, go_andV, go_if, go_nil, go_cons, go_tup, go_lst, go_lstC, go_cb, go_call, go_callW, go_meth, go_noPart, go_part, go_sl, go_get, go_retN, go_lc, go_dc, go_iter, go_enum, go_rng, go_rng1, go_rng2, go_rng3, go_disp, go_pnil, go_pcons, go_bdT, go_bdF, go_ok, go_nx, go_rt, go_addI, go_addS, go_addT, go_addL, go_subI, go_mulI, go_mulL, go_modI, go_fdivI, go_powI, go_ltI, go_leI, go_gtI, go_geI, go_eqI, go_eqS, go_neI, go_neS, go_ixF, go_ixT, go_ixS, go_ixD, go_slT, go_slF, go_slR, go_slS, go_revF, go_revCF, go_revAT, go_revAL, List.getElem?_cons_zero, List.getElem?_cons_succ, List.set_cons_zero, List.set_cons_succ, List.length_cons, List.length_nil, D.int.injEq, D.bl.injEq, D.str.injEq, Option.some.injEq, exists_eq_left', go_listF, go_listT, go_tupleF, go_tupleT, go_lenF, go_lenT, go_lenS, go_isiS, go_isiI, go_intI, go_intB, go_maxI, it_lst, it_tupD, it_strD, en_lst, en_tup, fr_gN, wipeD, go_inTab, go_notInTab, go_tab, go_lc2, go_par2, go_par3, i0, i1, i2]
  refine ⟨by decide, by decide, by decide, by decide, ?_⟩
  have hlen := h.len
  have h0 : DkIs b (T ++ [.lst (([⟨"free", x0, []⟩, ⟨"free", x1, []⟩, ⟨"line", x2, [.s x0, .s x1]⟩] : List Stp).map stD)]) (M ++ [.lst [D.tup [D.str "free", D.str x0], D.tup [D.str "free", D.str x1], D.tup [D.str "line", D.str x2, D.str x0, D.str x1]]]) := h.push _
  rw [go_seq, go_ifS, go_test, go_bin, go_call]
  simp only [go_bin, go_un, go_var, go_c, go_test, go_andT, go_orT, go_notT, go_yes, go_andV, go_if, go_nil, go_cons, go_tup, go_lst, go_lstC, go_cb, go_call, go_callW, go_meth, go_noPart, go_part, go_sl, go_get, go_retN, go_lc, go_dc, go_iter, go_enum, go_rng, go_rng1, go_rng2, go_rng3, go_disp, go_pnil, go_pcons, go_bdT, go_bdF, go_ok, go_nx, go_rt, go_addI, go_addS, go_addT, go_addL, go_subI, go_mulI, go_mulL, go_modI, go_fdivI, go_powI, go_ltI, go_leI, go_gtI, go_geI, go_eqI, go_eqS, go_neI, go_neS, go_ixF, go_ixT, go_ixS, go_ixD, go_slT, go_slF, go_slR, go_slS, go_revF, go_revCF, go_revAT, go_revAL, List.getElem?_cons_zero, List.getElem?_cons_succ, List.set_cons_zero, List.set_cons_succ, List.length_cons, List.length_nil, D.int.injEq, D.bl.injEq, D.str.injEq, Option.some.injEq, exists_eq_left', go_listF, go_listT, go_tupleF, go_tupleT, go_lenF, go_lenT, go_lenS, go_isiS, go_isiI, go_intI, go_intB, go_maxI, it_lst, it_tupD, it_strD, en_lst, en_tup, fr_gN, wipeD, go_inTab, go_notInTab, go_tab, go_lc2, go_par2, go_par3]
  refine ⟨trivial, draw_ok h0 (by omega) (by decide) (by decide) fun r M1 r0 r1 h1 => ?_⟩
  simp only [go_bin, go_un, go_var, go_c, go_test, go_andT, go_orT, go_notT, go_yes, go_andV, go_if, go_nil, go_cons, go_tup, go_lst, go_lstC, go_cb, go_call, go_callW, go_meth, go_noPart, go_part, go_sl, go_get, go_retN, go_lc, go_dc, go_iter, go_enum, go_rng, go_rng1, go_rng2, go_rng3, go_disp, go_pnil, go_pcons, go_bdT, go_bdF, go_ok, go_nx, go_rt, go_addI, go_addS, go_addT, go_addL, go_subI, go_mulI, go_mulL, go_modI, go_fdivI, go_powI, go_ltI, go_leI, go_gtI, go_geI, go_eqI, go_eqS, go_neI, go_neS, go_ixF, go_ixT, go_ixS, go_ixD, go_slT, go_slF, go_slR, go_slS, go_revF, go_revCF, go_revAT, go_revAL, List.getElem?_cons_zero, List.getElem?_cons_succ, List.set_cons_zero, List.set_cons_succ, List.length_cons, List.length_nil, D.int.injEq, D.bl.injEq, D.str.injEq, Option.some.injEq, exists_eq_left', go_listF, go_listT, go_tupleF, go_tupleT, go_lenF, go_lenT, go_lenS, go_isiS, go_isiI, go_intI, go_intB, go_maxI, it_lst, it_tupD, it_strD, en_lst, en_tup, fr_gN, wipeD, go_inTab, go_notInTab, go_tab, go_lc2, go_par2, go_par3]
  rw [hlen]
  split
  · rw [go_setItem]
    simp only [go_bin, go_un, go_var, go_c, go_test, go_andT, go_orT, go_notT, go_yes, go_andV, go_if, go_nil, go_cons, go_tup, go_lst, go_lstC, go_cb, go_call, go_callW, go_meth, go_noPart, go_part, go_sl, go_get, go_retN, go_lc, go_dc, go_iter, go_enum, go_rng, go_rng1, go_rng2, go_rng3, go_disp, go_pnil, go_pcons, go_bdT, go_bdF, go_ok, go_nx, go_rt, go_addI, go_addS, go_addT, go_addL, go_subI, go_mulI, go_mulL, go_modI, go_fdivI, go_powI, go_ltI, go_leI, go_gtI, go_geI, go_eqI, go_eqS, go_neI, go_neS, go_ixF, go_ixT, go_ixS, go_ixD, go_slT, go_slF, go_slR, go_slS, go_revF, go_revCF, go_revAT, go_revAL, List.getElem?_cons_zero, List.getElem?_cons_succ, List.set_cons_zero, List.set_cons_succ, List.length_cons, List.length_nil, D.int.injEq, D.bl.injEq, D.str.injEq, Option.some.injEq, exists_eq_left', go_listF, go_listT, go_tupleF, go_tupleT, go_lenF, go_lenT, go_lenS, go_isiS, go_isiI, go_intI, go_intB, go_maxI, it_lst, it_tupD, it_strD, en_lst, en_tup, fr_gN, wipeD, go_inTab, go_notInTab, go_tab, go_lc2, go_par2, go_par3, i0, i1, i2]
    have hc : M1[T.length + 0 + 2]? = some (.lst [D.tup [D.str "free", D.str x0], D.tup [D.str "free", D.str x1], D.tup [D.str "line", D.str x2, D.str x0, D.str x1]]) := (h1.new 0).trans rfl
    refine ⟨by decide, M1.set (T.length + 0 + 2) (.lst [D.tup [D.str "free", D.str x0], D.tup [D.str "free", D.str x1], D.tup [D.str "circle", D.str x2, D.str x1, D.str x0]]), ?_, ?_⟩
    · have hc' : M1[T.length + 2]? = some (.lst [D.tup [D.str "free", D.str x0], D.tup [D.str "free", D.str x1], D.tup [D.str "line", D.str x2, D.str x0, D.str x1]]) := hc
      simp only [setM, hc']
      rfl
    · refine sk_tail (ss := [⟨"free", x0, []⟩, ⟨"free", x1, []⟩, ⟨"circle", x2, [.s x1, .s x0]⟩]) h hb hx m0 m1 (by rw [e]; exact good3 (e ▸ hx.nd) n0 n1 n2 form_circle (by decide +kernel) (.inr ⟨rfl, rfl⟩)) rfl ?_ q
      exact h1.put 0 _
  · rw [go_next]
    exact sk_tail (ss := [⟨"free", x0, []⟩, ⟨"free", x1, []⟩, ⟨"line", x2, [.s x0, .s x1]⟩]) h hb hx m0 m1 (by rw [e]; exact good3 (e ▸ hx.nd) n0 n1 n2 form_line (by decide +kernel) (.inl ⟨rfl, rfl⟩)) rfl h1 q
end Sk

namespace Wd
open PySem
theorem free_on : (("free" : Str) = ("on" : Str)) = False := eq_false (by decide +kernel)
theorem free_round : (("free" : Str) = ("round" : Str)) = False := eq_false (by decide +kernel)
theorem free_meet : (("free" : Str) = ("meet" : Str)) = False := eq_false (by decide +kernel)
theorem free_middle : (("free" : Str) = ("middle" : Str)) = False := eq_false (by decide +kernel)
theorem free_foot : (("free" : Str) = ("foot" : Str)) = False := eq_false (by decide +kernel)
theorem free_mirror : (("free" : Str) = ("mirror" : Str)) = False := eq_false (by decide +kernel)
theorem free_turn : (("free" : Str) = ("turn" : Str)) = False := eq_false (by decide +kernel)
theorem free_other : (("free" : Str) = ("other" : Str)) = False := eq_false (by decide +kernel)
theorem free_cross : (("free" : Str) = ("cross" : Str)) = False := eq_false (by decide +kernel)
theorem free_line : (("free" : Str) = ("line" : Str)) = False := eq_false (by decide +kernel)
theorem free_along : (("free" : Str) = ("along" : Str)) = False := eq_false (by decide +kernel)
theorem free_upright : (("free" : Str) = ("upright" : Str)) = False := eq_false (by decide +kernel)
theorem free_circle : (("free" : Str) = ("circle" : Str)) = False := eq_false (by decide +kernel)
theorem free_same : (("free" : Str) = ("same" : Str)) = False := eq_false (by decide +kernel)
theorem free_row : (("free" : Str) = ("row" : Str)) = False := eq_false (by decide +kernel)
theorem free_alike : (("free" : Str) = ("alike" : Str)) = False := eq_false (by decide +kernel)
theorem free_angle : (("free" : Str) = ("angle" : Str)) = False := eq_false (by decide +kernel)
theorem free_ring : (("free" : Str) = ("ring" : Str)) = False := eq_false (by decide +kernel)
theorem free_at : (("free" : Str) = ("at" : Str)) = False := eq_false (by decide +kernel)
theorem free_point : (("free" : Str) = ("point" : Str)) = False := eq_false (by decide +kernel)
theorem on_free : (("on" : Str) = ("free" : Str)) = False := eq_false (by decide +kernel)
theorem on_round : (("on" : Str) = ("round" : Str)) = False := eq_false (by decide +kernel)
theorem on_meet : (("on" : Str) = ("meet" : Str)) = False := eq_false (by decide +kernel)
theorem on_middle : (("on" : Str) = ("middle" : Str)) = False := eq_false (by decide +kernel)
theorem on_foot : (("on" : Str) = ("foot" : Str)) = False := eq_false (by decide +kernel)
theorem on_mirror : (("on" : Str) = ("mirror" : Str)) = False := eq_false (by decide +kernel)
theorem on_turn : (("on" : Str) = ("turn" : Str)) = False := eq_false (by decide +kernel)
theorem on_other : (("on" : Str) = ("other" : Str)) = False := eq_false (by decide +kernel)
theorem on_cross : (("on" : Str) = ("cross" : Str)) = False := eq_false (by decide +kernel)
theorem on_line : (("on" : Str) = ("line" : Str)) = False := eq_false (by decide +kernel)
theorem on_along : (("on" : Str) = ("along" : Str)) = False := eq_false (by decide +kernel)
theorem on_upright : (("on" : Str) = ("upright" : Str)) = False := eq_false (by decide +kernel)
theorem on_circle : (("on" : Str) = ("circle" : Str)) = False := eq_false (by decide +kernel)
theorem on_same : (("on" : Str) = ("same" : Str)) = False := eq_false (by decide +kernel)
theorem on_row : (("on" : Str) = ("row" : Str)) = False := eq_false (by decide +kernel)
theorem on_alike : (("on" : Str) = ("alike" : Str)) = False := eq_false (by decide +kernel)
theorem on_angle : (("on" : Str) = ("angle" : Str)) = False := eq_false (by decide +kernel)
theorem on_ring : (("on" : Str) = ("ring" : Str)) = False := eq_false (by decide +kernel)
theorem on_at : (("on" : Str) = ("at" : Str)) = False := eq_false (by decide +kernel)
theorem on_point : (("on" : Str) = ("point" : Str)) = False := eq_false (by decide +kernel)
theorem round_free : (("round" : Str) = ("free" : Str)) = False := eq_false (by decide +kernel)
theorem round_on : (("round" : Str) = ("on" : Str)) = False := eq_false (by decide +kernel)
theorem round_meet : (("round" : Str) = ("meet" : Str)) = False := eq_false (by decide +kernel)
theorem round_middle : (("round" : Str) = ("middle" : Str)) = False := eq_false (by decide +kernel)
theorem round_foot : (("round" : Str) = ("foot" : Str)) = False := eq_false (by decide +kernel)
theorem round_mirror : (("round" : Str) = ("mirror" : Str)) = False := eq_false (by decide +kernel)
theorem round_turn : (("round" : Str) = ("turn" : Str)) = False := eq_false (by decide +kernel)
theorem round_other : (("round" : Str) = ("other" : Str)) = False := eq_false (by decide +kernel)
theorem round_cross : (("round" : Str) = ("cross" : Str)) = False := eq_false (by decide +kernel)
theorem round_line : (("round" : Str) = ("line" : Str)) = False := eq_false (by decide +kernel)
theorem round_along : (("round" : Str) = ("along" : Str)) = False := eq_false (by decide +kernel)
theorem round_upright : (("round" : Str) = ("upright" : Str)) = False := eq_false (by decide +kernel)
theorem round_circle : (("round" : Str) = ("circle" : Str)) = False := eq_false (by decide +kernel)
theorem round_same : (("round" : Str) = ("same" : Str)) = False := eq_false (by decide +kernel)
theorem round_row : (("round" : Str) = ("row" : Str)) = False := eq_false (by decide +kernel)
theorem round_alike : (("round" : Str) = ("alike" : Str)) = False := eq_false (by decide +kernel)
theorem round_angle : (("round" : Str) = ("angle" : Str)) = False := eq_false (by decide +kernel)
theorem round_ring : (("round" : Str) = ("ring" : Str)) = False := eq_false (by decide +kernel)
theorem round_at : (("round" : Str) = ("at" : Str)) = False := eq_false (by decide +kernel)
theorem round_point : (("round" : Str) = ("point" : Str)) = False := eq_false (by decide +kernel)
theorem meet_free : (("meet" : Str) = ("free" : Str)) = False := eq_false (by decide +kernel)
theorem meet_on : (("meet" : Str) = ("on" : Str)) = False := eq_false (by decide +kernel)
theorem meet_round : (("meet" : Str) = ("round" : Str)) = False := eq_false (by decide +kernel)
theorem meet_middle : (("meet" : Str) = ("middle" : Str)) = False := eq_false (by decide +kernel)
theorem meet_foot : (("meet" : Str) = ("foot" : Str)) = False := eq_false (by decide +kernel)
theorem meet_mirror : (("meet" : Str) = ("mirror" : Str)) = False := eq_false (by decide +kernel)
theorem meet_turn : (("meet" : Str) = ("turn" : Str)) = False := eq_false (by decide +kernel)
theorem meet_other : (("meet" : Str) = ("other" : Str)) = False := eq_false (by decide +kernel)
theorem meet_cross : (("meet" : Str) = ("cross" : Str)) = False := eq_false (by decide +kernel)
theorem meet_line : (("meet" : Str) = ("line" : Str)) = False := eq_false (by decide +kernel)
theorem meet_along : (("meet" : Str) = ("along" : Str)) = False := eq_false (by decide +kernel)
theorem meet_upright : (("meet" : Str) = ("upright" : Str)) = False := eq_false (by decide +kernel)
theorem meet_circle : (("meet" : Str) = ("circle" : Str)) = False := eq_false (by decide +kernel)
theorem meet_same : (("meet" : Str) = ("same" : Str)) = False := eq_false (by decide +kernel)
theorem meet_row : (("meet" : Str) = ("row" : Str)) = False := eq_false (by decide +kernel)
theorem meet_alike : (("meet" : Str) = ("alike" : Str)) = False := eq_false (by decide +kernel)
theorem meet_angle : (("meet" : Str) = ("angle" : Str)) = False := eq_false (by decide +kernel)
theorem meet_ring : (("meet" : Str) = ("ring" : Str)) = False := eq_false (by decide +kernel)
theorem meet_at : (("meet" : Str) = ("at" : Str)) = False := eq_false (by decide +kernel)
theorem meet_point : (("meet" : Str) = ("point" : Str)) = False := eq_false (by decide +kernel)
theorem middle_free : (("middle" : Str) = ("free" : Str)) = False := eq_false (by decide +kernel)
theorem middle_on : (("middle" : Str) = ("on" : Str)) = False := eq_false (by decide +kernel)
theorem middle_round : (("middle" : Str) = ("round" : Str)) = False := eq_false (by decide +kernel)
theorem middle_meet : (("middle" : Str) = ("meet" : Str)) = False := eq_false (by decide +kernel)
theorem middle_foot : (("middle" : Str) = ("foot" : Str)) = False := eq_false (by decide +kernel)
theorem middle_mirror : (("middle" : Str) = ("mirror" : Str)) = False := eq_false (by decide +kernel)
theorem middle_turn : (("middle" : Str) = ("turn" : Str)) = False := eq_false (by decide +kernel)
theorem middle_other : (("middle" : Str) = ("other" : Str)) = False := eq_false (by decide +kernel)
theorem middle_cross : (("middle" : Str) = ("cross" : Str)) = False := eq_false (by decide +kernel)
theorem middle_line : (("middle" : Str) = ("line" : Str)) = False := eq_false (by decide +kernel)
theorem middle_along : (("middle" : Str) = ("along" : Str)) = False := eq_false (by decide +kernel)
theorem middle_upright : (("middle" : Str) = ("upright" : Str)) = False := eq_false (by decide +kernel)
theorem middle_circle : (("middle" : Str) = ("circle" : Str)) = False := eq_false (by decide +kernel)
theorem middle_same : (("middle" : Str) = ("same" : Str)) = False := eq_false (by decide +kernel)
theorem middle_row : (("middle" : Str) = ("row" : Str)) = False := eq_false (by decide +kernel)
theorem middle_alike : (("middle" : Str) = ("alike" : Str)) = False := eq_false (by decide +kernel)
theorem middle_angle : (("middle" : Str) = ("angle" : Str)) = False := eq_false (by decide +kernel)
theorem middle_ring : (("middle" : Str) = ("ring" : Str)) = False := eq_false (by decide +kernel)
theorem middle_at : (("middle" : Str) = ("at" : Str)) = False := eq_false (by decide +kernel)
theorem middle_point : (("middle" : Str) = ("point" : Str)) = False := eq_false (by decide +kernel)
theorem foot_free : (("foot" : Str) = ("free" : Str)) = False := eq_false (by decide +kernel)
theorem foot_on : (("foot" : Str) = ("on" : Str)) = False := eq_false (by decide +kernel)
theorem foot_round : (("foot" : Str) = ("round" : Str)) = False := eq_false (by decide +kernel)
theorem foot_meet : (("foot" : Str) = ("meet" : Str)) = False := eq_false (by decide +kernel)
theorem foot_middle : (("foot" : Str) = ("middle" : Str)) = False := eq_false (by decide +kernel)
theorem foot_mirror : (("foot" : Str) = ("mirror" : Str)) = False := eq_false (by decide +kernel)
theorem foot_turn : (("foot" : Str) = ("turn" : Str)) = False := eq_false (by decide +kernel)
theorem foot_other : (("foot" : Str) = ("other" : Str)) = False := eq_false (by decide +kernel)
theorem foot_cross : (("foot" : Str) = ("cross" : Str)) = False := eq_false (by decide +kernel)
theorem foot_line : (("foot" : Str) = ("line" : Str)) = False := eq_false (by decide +kernel)
theorem foot_along : (("foot" : Str) = ("along" : Str)) = False := eq_false (by decide +kernel)
theorem foot_upright : (("foot" : Str) = ("upright" : Str)) = False := eq_false (by decide +kernel)
theorem foot_circle : (("foot" : Str) = ("circle" : Str)) = False := eq_false (by decide +kernel)
theorem foot_same : (("foot" : Str) = ("same" : Str)) = False := eq_false (by decide +kernel)
theorem foot_row : (("foot" : Str) = ("row" : Str)) = False := eq_false (by decide +kernel)
theorem foot_alike : (("foot" : Str) = ("alike" : Str)) = False := eq_false (by decide +kernel)
theorem foot_angle : (("foot" : Str) = ("angle" : Str)) = False := eq_false (by decide +kernel)
theorem foot_ring : (("foot" : Str) = ("ring" : Str)) = False := eq_false (by decide +kernel)
theorem foot_at : (("foot" : Str) = ("at" : Str)) = False := eq_false (by decide +kernel)
theorem foot_point : (("foot" : Str) = ("point" : Str)) = False := eq_false (by decide +kernel)
theorem mirror_free : (("mirror" : Str) = ("free" : Str)) = False := eq_false (by decide +kernel)
theorem mirror_on : (("mirror" : Str) = ("on" : Str)) = False := eq_false (by decide +kernel)
theorem mirror_round : (("mirror" : Str) = ("round" : Str)) = False := eq_false (by decide +kernel)
theorem mirror_meet : (("mirror" : Str) = ("meet" : Str)) = False := eq_false (by decide +kernel)
theorem mirror_middle : (("mirror" : Str) = ("middle" : Str)) = False := eq_false (by decide +kernel)
theorem mirror_foot : (("mirror" : Str) = ("foot" : Str)) = False := eq_false (by decide +kernel)
theorem mirror_turn : (("mirror" : Str) = ("turn" : Str)) = False := eq_false (by decide +kernel)
theorem mirror_other : (("mirror" : Str) = ("other" : Str)) = False := eq_false (by decide +kernel)
theorem mirror_cross : (("mirror" : Str) = ("cross" : Str)) = False := eq_false (by decide +kernel)
theorem mirror_line : (("mirror" : Str) = ("line" : Str)) = False := eq_false (by decide +kernel)
theorem mirror_along : (("mirror" : Str) = ("along" : Str)) = False := eq_false (by decide +kernel)
theorem mirror_upright : (("mirror" : Str) = ("upright" : Str)) = False := eq_false (by decide +kernel)
theorem mirror_circle : (("mirror" : Str) = ("circle" : Str)) = False := eq_false (by decide +kernel)
theorem mirror_same : (("mirror" : Str) = ("same" : Str)) = False := eq_false (by decide +kernel)
theorem mirror_row : (("mirror" : Str) = ("row" : Str)) = False := eq_false (by decide +kernel)
theorem mirror_alike : (("mirror" : Str) = ("alike" : Str)) = False := eq_false (by decide +kernel)
theorem mirror_angle : (("mirror" : Str) = ("angle" : Str)) = False := eq_false (by decide +kernel)
theorem mirror_ring : (("mirror" : Str) = ("ring" : Str)) = False := eq_false (by decide +kernel)
theorem mirror_at : (("mirror" : Str) = ("at" : Str)) = False := eq_false (by decide +kernel)
theorem mirror_point : (("mirror" : Str) = ("point" : Str)) = False := eq_false (by decide +kernel)
theorem turn_free : (("turn" : Str) = ("free" : Str)) = False := eq_false (by decide +kernel)
theorem turn_on : (("turn" : Str) = ("on" : Str)) = False := eq_false (by decide +kernel)
theorem turn_round : (("turn" : Str) = ("round" : Str)) = False := eq_false (by decide +kernel)
theorem turn_meet : (("turn" : Str) = ("meet" : Str)) = False := eq_false (by decide +kernel)
theorem turn_middle : (("turn" : Str) = ("middle" : Str)) = False := eq_false (by decide +kernel)
theorem turn_foot : (("turn" : Str) = ("foot" : Str)) = False := eq_false (by decide +kernel)
theorem turn_mirror : (("turn" : Str) = ("mirror" : Str)) = False := eq_false (by decide +kernel)
theorem turn_other : (("turn" : Str) = ("other" : Str)) = False := eq_false (by decide +kernel)
theorem turn_cross : (("turn" : Str) = ("cross" : Str)) = False := eq_false (by decide +kernel)
theorem turn_line : (("turn" : Str) = ("line" : Str)) = False := eq_false (by decide +kernel)
theorem turn_along : (("turn" : Str) = ("along" : Str)) = False := eq_false (by decide +kernel)
theorem turn_upright : (("turn" : Str) = ("upright" : Str)) = False := eq_false (by decide +kernel)
theorem turn_circle : (("turn" : Str) = ("circle" : Str)) = False := eq_false (by decide +kernel)
theorem turn_same : (("turn" : Str) = ("same" : Str)) = False := eq_false (by decide +kernel)
theorem turn_row : (("turn" : Str) = ("row" : Str)) = False := eq_false (by decide +kernel)
theorem turn_alike : (("turn" : Str) = ("alike" : Str)) = False := eq_false (by decide +kernel)
theorem turn_angle : (("turn" : Str) = ("angle" : Str)) = False := eq_false (by decide +kernel)
theorem turn_ring : (("turn" : Str) = ("ring" : Str)) = False := eq_false (by decide +kernel)
theorem turn_at : (("turn" : Str) = ("at" : Str)) = False := eq_false (by decide +kernel)
theorem turn_point : (("turn" : Str) = ("point" : Str)) = False := eq_false (by decide +kernel)
theorem other_free : (("other" : Str) = ("free" : Str)) = False := eq_false (by decide +kernel)
theorem other_on : (("other" : Str) = ("on" : Str)) = False := eq_false (by decide +kernel)
theorem other_round : (("other" : Str) = ("round" : Str)) = False := eq_false (by decide +kernel)
theorem other_meet : (("other" : Str) = ("meet" : Str)) = False := eq_false (by decide +kernel)
theorem other_middle : (("other" : Str) = ("middle" : Str)) = False := eq_false (by decide +kernel)
theorem other_foot : (("other" : Str) = ("foot" : Str)) = False := eq_false (by decide +kernel)
theorem other_mirror : (("other" : Str) = ("mirror" : Str)) = False := eq_false (by decide +kernel)
theorem other_turn : (("other" : Str) = ("turn" : Str)) = False := eq_false (by decide +kernel)
theorem other_cross : (("other" : Str) = ("cross" : Str)) = False := eq_false (by decide +kernel)
theorem other_line : (("other" : Str) = ("line" : Str)) = False := eq_false (by decide +kernel)
theorem other_along : (("other" : Str) = ("along" : Str)) = False := eq_false (by decide +kernel)
theorem other_upright : (("other" : Str) = ("upright" : Str)) = False := eq_false (by decide +kernel)
theorem other_circle : (("other" : Str) = ("circle" : Str)) = False := eq_false (by decide +kernel)
theorem other_same : (("other" : Str) = ("same" : Str)) = False := eq_false (by decide +kernel)
theorem other_row : (("other" : Str) = ("row" : Str)) = False := eq_false (by decide +kernel)
theorem other_alike : (("other" : Str) = ("alike" : Str)) = False := eq_false (by decide +kernel)
theorem other_angle : (("other" : Str) = ("angle" : Str)) = False := eq_false (by decide +kernel)
theorem other_ring : (("other" : Str) = ("ring" : Str)) = False := eq_false (by decide +kernel)
theorem other_at : (("other" : Str) = ("at" : Str)) = False := eq_false (by decide +kernel)
theorem other_point : (("other" : Str) = ("point" : Str)) = False := eq_false (by decide +kernel)
theorem cross_free : (("cross" : Str) = ("free" : Str)) = False := eq_false (by decide +kernel)
theorem cross_on : (("cross" : Str) = ("on" : Str)) = False := eq_false (by decide +kernel)
theorem cross_round : (("cross" : Str) = ("round" : Str)) = False := eq_false (by decide +kernel)
theorem cross_meet : (("cross" : Str) = ("meet" : Str)) = False := eq_false (by decide +kernel)
theorem cross_middle : (("cross" : Str) = ("middle" : Str)) = False := eq_false (by decide +kernel)
theorem cross_foot : (("cross" : Str) = ("foot" : Str)) = False := eq_false (by decide +kernel)
theorem cross_mirror : (("cross" : Str) = ("mirror" : Str)) = False := eq_false (by decide +kernel)
theorem cross_turn : (("cross" : Str) = ("turn" : Str)) = False := eq_false (by decide +kernel)
theorem cross_other : (("cross" : Str) = ("other" : Str)) = False := eq_false (by decide +kernel)
theorem cross_line : (("cross" : Str) = ("line" : Str)) = False := eq_false (by decide +kernel)
theorem cross_along : (("cross" : Str) = ("along" : Str)) = False := eq_false (by decide +kernel)
theorem cross_upright : (("cross" : Str) = ("upright" : Str)) = False := eq_false (by decide +kernel)
theorem cross_circle : (("cross" : Str) = ("circle" : Str)) = False := eq_false (by decide +kernel)
theorem cross_same : (("cross" : Str) = ("same" : Str)) = False := eq_false (by decide +kernel)
theorem cross_row : (("cross" : Str) = ("row" : Str)) = False := eq_false (by decide +kernel)
theorem cross_alike : (("cross" : Str) = ("alike" : Str)) = False := eq_false (by decide +kernel)
theorem cross_angle : (("cross" : Str) = ("angle" : Str)) = False := eq_false (by decide +kernel)
theorem cross_ring : (("cross" : Str) = ("ring" : Str)) = False := eq_false (by decide +kernel)
theorem cross_at : (("cross" : Str) = ("at" : Str)) = False := eq_false (by decide +kernel)
theorem cross_point : (("cross" : Str) = ("point" : Str)) = False := eq_false (by decide +kernel)
theorem line_free : (("line" : Str) = ("free" : Str)) = False := eq_false (by decide +kernel)
theorem line_on : (("line" : Str) = ("on" : Str)) = False := eq_false (by decide +kernel)
theorem line_round : (("line" : Str) = ("round" : Str)) = False := eq_false (by decide +kernel)
theorem line_meet : (("line" : Str) = ("meet" : Str)) = False := eq_false (by decide +kernel)
theorem line_middle : (("line" : Str) = ("middle" : Str)) = False := eq_false (by decide +kernel)
theorem line_foot : (("line" : Str) = ("foot" : Str)) = False := eq_false (by decide +kernel)
theorem line_mirror : (("line" : Str) = ("mirror" : Str)) = False := eq_false (by decide +kernel)
theorem line_turn : (("line" : Str) = ("turn" : Str)) = False := eq_false (by decide +kernel)
theorem line_other : (("line" : Str) = ("other" : Str)) = False := eq_false (by decide +kernel)
theorem line_cross : (("line" : Str) = ("cross" : Str)) = False := eq_false (by decide +kernel)
theorem line_along : (("line" : Str) = ("along" : Str)) = False := eq_false (by decide +kernel)
theorem line_upright : (("line" : Str) = ("upright" : Str)) = False := eq_false (by decide +kernel)
theorem line_circle : (("line" : Str) = ("circle" : Str)) = False := eq_false (by decide +kernel)
theorem line_same : (("line" : Str) = ("same" : Str)) = False := eq_false (by decide +kernel)
theorem line_row : (("line" : Str) = ("row" : Str)) = False := eq_false (by decide +kernel)
theorem line_alike : (("line" : Str) = ("alike" : Str)) = False := eq_false (by decide +kernel)
theorem line_angle : (("line" : Str) = ("angle" : Str)) = False := eq_false (by decide +kernel)
theorem line_ring : (("line" : Str) = ("ring" : Str)) = False := eq_false (by decide +kernel)
theorem line_at : (("line" : Str) = ("at" : Str)) = False := eq_false (by decide +kernel)
theorem line_point : (("line" : Str) = ("point" : Str)) = False := eq_false (by decide +kernel)
theorem along_free : (("along" : Str) = ("free" : Str)) = False := eq_false (by decide +kernel)
theorem along_on : (("along" : Str) = ("on" : Str)) = False := eq_false (by decide +kernel)
theorem along_round : (("along" : Str) = ("round" : Str)) = False := eq_false (by decide +kernel)
theorem along_meet : (("along" : Str) = ("meet" : Str)) = False := eq_false (by decide +kernel)
theorem along_middle : (("along" : Str) = ("middle" : Str)) = False := eq_false (by decide +kernel)
theorem along_foot : (("along" : Str) = ("foot" : Str)) = False := eq_false (by decide +kernel)
theorem along_mirror : (("along" : Str) = ("mirror" : Str)) = False := eq_false (by decide +kernel)
theorem along_turn : (("along" : Str) = ("turn" : Str)) = False := eq_false (by decide +kernel)
theorem along_other : (("along" : Str) = ("other" : Str)) = False := eq_false (by decide +kernel)
theorem along_cross : (("along" : Str) = ("cross" : Str)) = False := eq_false (by decide +kernel)
theorem along_line : (("along" : Str) = ("line" : Str)) = False := eq_false (by decide +kernel)
theorem along_upright : (("along" : Str) = ("upright" : Str)) = False := eq_false (by decide +kernel)
theorem along_circle : (("along" : Str) = ("circle" : Str)) = False := eq_false (by decide +kernel)
theorem along_same : (("along" : Str) = ("same" : Str)) = False := eq_false (by decide +kernel)
theorem along_row : (("along" : Str) = ("row" : Str)) = False := eq_false (by decide +kernel)
theorem along_alike : (("along" : Str) = ("alike" : Str)) = False := eq_false (by decide +kernel)
theorem along_angle : (("along" : Str) = ("angle" : Str)) = False := eq_false (by decide +kernel)
theorem along_ring : (("along" : Str) = ("ring" : Str)) = False := eq_false (by decide +kernel)
theorem along_at : (("along" : Str) = ("at" : Str)) = False := eq_false (by decide +kernel)
theorem along_point : (("along" : Str) = ("point" : Str)) = False := eq_false (by decide +kernel)
theorem upright_free : (("upright" : Str) = ("free" : Str)) = False := eq_false (by decide +kernel)
theorem upright_on : (("upright" : Str) = ("on" : Str)) = False := eq_false (by decide +kernel)
theorem upright_round : (("upright" : Str) = ("round" : Str)) = False := eq_false (by decide +kernel)
theorem upright_meet : (("upright" : Str) = ("meet" : Str)) = False := eq_false (by decide +kernel)
theorem upright_middle : (("upright" : Str) = ("middle" : Str)) = False := eq_false (by decide +kernel)
theorem upright_foot : (("upright" : Str) = ("foot" : Str)) = False := eq_false (by decide +kernel)
theorem upright_mirror : (("upright" : Str) = ("mirror" : Str)) = False := eq_false (by decide +kernel)
theorem upright_turn : (("upright" : Str) = ("turn" : Str)) = False := eq_false (by decide +kernel)
theorem upright_other : (("upright" : Str) = ("other" : Str)) = False := eq_false (by decide +kernel)
theorem upright_cross : (("upright" : Str) = ("cross" : Str)) = False := eq_false (by decide +kernel)
theorem upright_line : (("upright" : Str) = ("line" : Str)) = False := eq_false (by decide +kernel)
theorem upright_along : (("upright" : Str) = ("along" : Str)) = False := eq_false (by decide +kernel)
theorem upright_circle : (("upright" : Str) = ("circle" : Str)) = False := eq_false (by decide +kernel)
theorem upright_same : (("upright" : Str) = ("same" : Str)) = False := eq_false (by decide +kernel)
theorem upright_row : (("upright" : Str) = ("row" : Str)) = False := eq_false (by decide +kernel)
theorem upright_alike : (("upright" : Str) = ("alike" : Str)) = False := eq_false (by decide +kernel)
theorem upright_angle : (("upright" : Str) = ("angle" : Str)) = False := eq_false (by decide +kernel)
theorem upright_ring : (("upright" : Str) = ("ring" : Str)) = False := eq_false (by decide +kernel)
theorem upright_at : (("upright" : Str) = ("at" : Str)) = False := eq_false (by decide +kernel)
theorem upright_point : (("upright" : Str) = ("point" : Str)) = False := eq_false (by decide +kernel)
theorem circle_free : (("circle" : Str) = ("free" : Str)) = False := eq_false (by decide +kernel)
theorem circle_on : (("circle" : Str) = ("on" : Str)) = False := eq_false (by decide +kernel)
theorem circle_round : (("circle" : Str) = ("round" : Str)) = False := eq_false (by decide +kernel)
theorem circle_meet : (("circle" : Str) = ("meet" : Str)) = False := eq_false (by decide +kernel)
theorem circle_middle : (("circle" : Str) = ("middle" : Str)) = False := eq_false (by decide +kernel)
theorem circle_foot : (("circle" : Str) = ("foot" : Str)) = False := eq_false (by decide +kernel)
theorem circle_mirror : (("circle" : Str) = ("mirror" : Str)) = False := eq_false (by decide +kernel)
theorem circle_turn : (("circle" : Str) = ("turn" : Str)) = False := eq_false (by decide +kernel)
theorem circle_other : (("circle" : Str) = ("other" : Str)) = False := eq_false (by decide +kernel)
theorem circle_cross : (("circle" : Str) = ("cross" : Str)) = False := eq_false (by decide +kernel)
theorem circle_line : (("circle" : Str) = ("line" : Str)) = False := eq_false (by decide +kernel)
theorem circle_along : (("circle" : Str) = ("along" : Str)) = False := eq_false (by decide +kernel)
theorem circle_upright : (("circle" : Str) = ("upright" : Str)) = False := eq_false (by decide +kernel)
theorem circle_same : (("circle" : Str) = ("same" : Str)) = False := eq_false (by decide +kernel)
theorem circle_row : (("circle" : Str) = ("row" : Str)) = False := eq_false (by decide +kernel)
theorem circle_alike : (("circle" : Str) = ("alike" : Str)) = False := eq_false (by decide +kernel)
theorem circle_angle : (("circle" : Str) = ("angle" : Str)) = False := eq_false (by decide +kernel)
theorem circle_ring : (("circle" : Str) = ("ring" : Str)) = False := eq_false (by decide +kernel)
theorem circle_at : (("circle" : Str) = ("at" : Str)) = False := eq_false (by decide +kernel)
theorem circle_point : (("circle" : Str) = ("point" : Str)) = False := eq_false (by decide +kernel)
theorem same_free : (("same" : Str) = ("free" : Str)) = False := eq_false (by decide +kernel)
theorem same_on : (("same" : Str) = ("on" : Str)) = False := eq_false (by decide +kernel)
theorem same_round : (("same" : Str) = ("round" : Str)) = False := eq_false (by decide +kernel)
theorem same_meet : (("same" : Str) = ("meet" : Str)) = False := eq_false (by decide +kernel)
theorem same_middle : (("same" : Str) = ("middle" : Str)) = False := eq_false (by decide +kernel)
theorem same_foot : (("same" : Str) = ("foot" : Str)) = False := eq_false (by decide +kernel)
theorem same_mirror : (("same" : Str) = ("mirror" : Str)) = False := eq_false (by decide +kernel)
theorem same_turn : (("same" : Str) = ("turn" : Str)) = False := eq_false (by decide +kernel)
theorem same_other : (("same" : Str) = ("other" : Str)) = False := eq_false (by decide +kernel)
theorem same_cross : (("same" : Str) = ("cross" : Str)) = False := eq_false (by decide +kernel)
theorem same_line : (("same" : Str) = ("line" : Str)) = False := eq_false (by decide +kernel)
theorem same_along : (("same" : Str) = ("along" : Str)) = False := eq_false (by decide +kernel)
theorem same_upright : (("same" : Str) = ("upright" : Str)) = False := eq_false (by decide +kernel)
theorem same_circle : (("same" : Str) = ("circle" : Str)) = False := eq_false (by decide +kernel)
theorem same_row : (("same" : Str) = ("row" : Str)) = False := eq_false (by decide +kernel)
theorem same_alike : (("same" : Str) = ("alike" : Str)) = False := eq_false (by decide +kernel)
theorem same_angle : (("same" : Str) = ("angle" : Str)) = False := eq_false (by decide +kernel)
theorem same_ring : (("same" : Str) = ("ring" : Str)) = False := eq_false (by decide +kernel)
theorem same_at : (("same" : Str) = ("at" : Str)) = False := eq_false (by decide +kernel)
theorem same_point : (("same" : Str) = ("point" : Str)) = False := eq_false (by decide +kernel)
theorem row_free : (("row" : Str) = ("free" : Str)) = False := eq_false (by decide +kernel)
theorem row_on : (("row" : Str) = ("on" : Str)) = False := eq_false (by decide +kernel)
theorem row_round : (("row" : Str) = ("round" : Str)) = False := eq_false (by decide +kernel)
theorem row_meet : (("row" : Str) = ("meet" : Str)) = False := eq_false (by decide +kernel)
theorem row_middle : (("row" : Str) = ("middle" : Str)) = False := eq_false (by decide +kernel)
theorem row_foot : (("row" : Str) = ("foot" : Str)) = False := eq_false (by decide +kernel)
theorem row_mirror : (("row" : Str) = ("mirror" : Str)) = False := eq_false (by decide +kernel)
theorem row_turn : (("row" : Str) = ("turn" : Str)) = False := eq_false (by decide +kernel)
theorem row_other : (("row" : Str) = ("other" : Str)) = False := eq_false (by decide +kernel)
theorem row_cross : (("row" : Str) = ("cross" : Str)) = False := eq_false (by decide +kernel)
theorem row_line : (("row" : Str) = ("line" : Str)) = False := eq_false (by decide +kernel)
theorem row_along : (("row" : Str) = ("along" : Str)) = False := eq_false (by decide +kernel)
theorem row_upright : (("row" : Str) = ("upright" : Str)) = False := eq_false (by decide +kernel)
theorem row_circle : (("row" : Str) = ("circle" : Str)) = False := eq_false (by decide +kernel)
theorem row_same : (("row" : Str) = ("same" : Str)) = False := eq_false (by decide +kernel)
theorem row_alike : (("row" : Str) = ("alike" : Str)) = False := eq_false (by decide +kernel)
theorem row_angle : (("row" : Str) = ("angle" : Str)) = False := eq_false (by decide +kernel)
theorem row_ring : (("row" : Str) = ("ring" : Str)) = False := eq_false (by decide +kernel)
theorem row_at : (("row" : Str) = ("at" : Str)) = False := eq_false (by decide +kernel)
theorem row_point : (("row" : Str) = ("point" : Str)) = False := eq_false (by decide +kernel)
theorem alike_free : (("alike" : Str) = ("free" : Str)) = False := eq_false (by decide +kernel)
theorem alike_on : (("alike" : Str) = ("on" : Str)) = False := eq_false (by decide +kernel)
theorem alike_round : (("alike" : Str) = ("round" : Str)) = False := eq_false (by decide +kernel)
theorem alike_meet : (("alike" : Str) = ("meet" : Str)) = False := eq_false (by decide +kernel)
theorem alike_middle : (("alike" : Str) = ("middle" : Str)) = False := eq_false (by decide +kernel)
theorem alike_foot : (("alike" : Str) = ("foot" : Str)) = False := eq_false (by decide +kernel)
theorem alike_mirror : (("alike" : Str) = ("mirror" : Str)) = False := eq_false (by decide +kernel)
theorem alike_turn : (("alike" : Str) = ("turn" : Str)) = False := eq_false (by decide +kernel)
theorem alike_other : (("alike" : Str) = ("other" : Str)) = False := eq_false (by decide +kernel)
theorem alike_cross : (("alike" : Str) = ("cross" : Str)) = False := eq_false (by decide +kernel)
theorem alike_line : (("alike" : Str) = ("line" : Str)) = False := eq_false (by decide +kernel)
theorem alike_along : (("alike" : Str) = ("along" : Str)) = False := eq_false (by decide +kernel)
theorem alike_upright : (("alike" : Str) = ("upright" : Str)) = False := eq_false (by decide +kernel)
theorem alike_circle : (("alike" : Str) = ("circle" : Str)) = False := eq_false (by decide +kernel)
theorem alike_same : (("alike" : Str) = ("same" : Str)) = False := eq_false (by decide +kernel)
theorem alike_row : (("alike" : Str) = ("row" : Str)) = False := eq_false (by decide +kernel)
theorem alike_angle : (("alike" : Str) = ("angle" : Str)) = False := eq_false (by decide +kernel)
theorem alike_ring : (("alike" : Str) = ("ring" : Str)) = False := eq_false (by decide +kernel)
theorem alike_at : (("alike" : Str) = ("at" : Str)) = False := eq_false (by decide +kernel)
theorem alike_point : (("alike" : Str) = ("point" : Str)) = False := eq_false (by decide +kernel)
theorem angle_free : (("angle" : Str) = ("free" : Str)) = False := eq_false (by decide +kernel)
theorem angle_on : (("angle" : Str) = ("on" : Str)) = False := eq_false (by decide +kernel)
theorem angle_round : (("angle" : Str) = ("round" : Str)) = False := eq_false (by decide +kernel)
theorem angle_meet : (("angle" : Str) = ("meet" : Str)) = False := eq_false (by decide +kernel)
theorem angle_middle : (("angle" : Str) = ("middle" : Str)) = False := eq_false (by decide +kernel)
theorem angle_foot : (("angle" : Str) = ("foot" : Str)) = False := eq_false (by decide +kernel)
theorem angle_mirror : (("angle" : Str) = ("mirror" : Str)) = False := eq_false (by decide +kernel)
theorem angle_turn : (("angle" : Str) = ("turn" : Str)) = False := eq_false (by decide +kernel)
theorem angle_other : (("angle" : Str) = ("other" : Str)) = False := eq_false (by decide +kernel)
theorem angle_cross : (("angle" : Str) = ("cross" : Str)) = False := eq_false (by decide +kernel)
theorem angle_line : (("angle" : Str) = ("line" : Str)) = False := eq_false (by decide +kernel)
theorem angle_along : (("angle" : Str) = ("along" : Str)) = False := eq_false (by decide +kernel)
theorem angle_upright : (("angle" : Str) = ("upright" : Str)) = False := eq_false (by decide +kernel)
theorem angle_circle : (("angle" : Str) = ("circle" : Str)) = False := eq_false (by decide +kernel)
theorem angle_same : (("angle" : Str) = ("same" : Str)) = False := eq_false (by decide +kernel)
theorem angle_row : (("angle" : Str) = ("row" : Str)) = False := eq_false (by decide +kernel)
theorem angle_alike : (("angle" : Str) = ("alike" : Str)) = False := eq_false (by decide +kernel)
theorem angle_ring : (("angle" : Str) = ("ring" : Str)) = False := eq_false (by decide +kernel)
theorem angle_at : (("angle" : Str) = ("at" : Str)) = False := eq_false (by decide +kernel)
theorem angle_point : (("angle" : Str) = ("point" : Str)) = False := eq_false (by decide +kernel)
theorem ring_free : (("ring" : Str) = ("free" : Str)) = False := eq_false (by decide +kernel)
theorem ring_on : (("ring" : Str) = ("on" : Str)) = False := eq_false (by decide +kernel)
theorem ring_round : (("ring" : Str) = ("round" : Str)) = False := eq_false (by decide +kernel)
theorem ring_meet : (("ring" : Str) = ("meet" : Str)) = False := eq_false (by decide +kernel)
theorem ring_middle : (("ring" : Str) = ("middle" : Str)) = False := eq_false (by decide +kernel)
theorem ring_foot : (("ring" : Str) = ("foot" : Str)) = False := eq_false (by decide +kernel)
theorem ring_mirror : (("ring" : Str) = ("mirror" : Str)) = False := eq_false (by decide +kernel)
theorem ring_turn : (("ring" : Str) = ("turn" : Str)) = False := eq_false (by decide +kernel)
theorem ring_other : (("ring" : Str) = ("other" : Str)) = False := eq_false (by decide +kernel)
theorem ring_cross : (("ring" : Str) = ("cross" : Str)) = False := eq_false (by decide +kernel)
theorem ring_line : (("ring" : Str) = ("line" : Str)) = False := eq_false (by decide +kernel)
theorem ring_along : (("ring" : Str) = ("along" : Str)) = False := eq_false (by decide +kernel)
theorem ring_upright : (("ring" : Str) = ("upright" : Str)) = False := eq_false (by decide +kernel)
theorem ring_circle : (("ring" : Str) = ("circle" : Str)) = False := eq_false (by decide +kernel)
theorem ring_same : (("ring" : Str) = ("same" : Str)) = False := eq_false (by decide +kernel)
theorem ring_row : (("ring" : Str) = ("row" : Str)) = False := eq_false (by decide +kernel)
theorem ring_alike : (("ring" : Str) = ("alike" : Str)) = False := eq_false (by decide +kernel)
theorem ring_angle : (("ring" : Str) = ("angle" : Str)) = False := eq_false (by decide +kernel)
theorem ring_at : (("ring" : Str) = ("at" : Str)) = False := eq_false (by decide +kernel)
theorem ring_point : (("ring" : Str) = ("point" : Str)) = False := eq_false (by decide +kernel)
theorem at_free : (("at" : Str) = ("free" : Str)) = False := eq_false (by decide +kernel)
theorem at_on : (("at" : Str) = ("on" : Str)) = False := eq_false (by decide +kernel)
theorem at_round : (("at" : Str) = ("round" : Str)) = False := eq_false (by decide +kernel)
theorem at_meet : (("at" : Str) = ("meet" : Str)) = False := eq_false (by decide +kernel)
theorem at_middle : (("at" : Str) = ("middle" : Str)) = False := eq_false (by decide +kernel)
theorem at_foot : (("at" : Str) = ("foot" : Str)) = False := eq_false (by decide +kernel)
theorem at_mirror : (("at" : Str) = ("mirror" : Str)) = False := eq_false (by decide +kernel)
theorem at_turn : (("at" : Str) = ("turn" : Str)) = False := eq_false (by decide +kernel)
theorem at_other : (("at" : Str) = ("other" : Str)) = False := eq_false (by decide +kernel)
theorem at_cross : (("at" : Str) = ("cross" : Str)) = False := eq_false (by decide +kernel)
theorem at_line : (("at" : Str) = ("line" : Str)) = False := eq_false (by decide +kernel)
theorem at_along : (("at" : Str) = ("along" : Str)) = False := eq_false (by decide +kernel)
theorem at_upright : (("at" : Str) = ("upright" : Str)) = False := eq_false (by decide +kernel)
theorem at_circle : (("at" : Str) = ("circle" : Str)) = False := eq_false (by decide +kernel)
theorem at_same : (("at" : Str) = ("same" : Str)) = False := eq_false (by decide +kernel)
theorem at_row : (("at" : Str) = ("row" : Str)) = False := eq_false (by decide +kernel)
theorem at_alike : (("at" : Str) = ("alike" : Str)) = False := eq_false (by decide +kernel)
theorem at_angle : (("at" : Str) = ("angle" : Str)) = False := eq_false (by decide +kernel)
theorem at_ring : (("at" : Str) = ("ring" : Str)) = False := eq_false (by decide +kernel)
theorem at_point : (("at" : Str) = ("point" : Str)) = False := eq_false (by decide +kernel)
theorem point_free : (("point" : Str) = ("free" : Str)) = False := eq_false (by decide +kernel)
theorem point_on : (("point" : Str) = ("on" : Str)) = False := eq_false (by decide +kernel)
theorem point_round : (("point" : Str) = ("round" : Str)) = False := eq_false (by decide +kernel)
theorem point_meet : (("point" : Str) = ("meet" : Str)) = False := eq_false (by decide +kernel)
theorem point_middle : (("point" : Str) = ("middle" : Str)) = False := eq_false (by decide +kernel)
theorem point_foot : (("point" : Str) = ("foot" : Str)) = False := eq_false (by decide +kernel)
theorem point_mirror : (("point" : Str) = ("mirror" : Str)) = False := eq_false (by decide +kernel)
theorem point_turn : (("point" : Str) = ("turn" : Str)) = False := eq_false (by decide +kernel)
theorem point_other : (("point" : Str) = ("other" : Str)) = False := eq_false (by decide +kernel)
theorem point_cross : (("point" : Str) = ("cross" : Str)) = False := eq_false (by decide +kernel)
theorem point_line : (("point" : Str) = ("line" : Str)) = False := eq_false (by decide +kernel)
theorem point_along : (("point" : Str) = ("along" : Str)) = False := eq_false (by decide +kernel)
theorem point_upright : (("point" : Str) = ("upright" : Str)) = False := eq_false (by decide +kernel)
theorem point_circle : (("point" : Str) = ("circle" : Str)) = False := eq_false (by decide +kernel)
theorem point_same : (("point" : Str) = ("same" : Str)) = False := eq_false (by decide +kernel)
theorem point_row : (("point" : Str) = ("row" : Str)) = False := eq_false (by decide +kernel)
theorem point_alike : (("point" : Str) = ("alike" : Str)) = False := eq_false (by decide +kernel)
theorem point_angle : (("point" : Str) = ("angle" : Str)) = False := eq_false (by decide +kernel)
theorem point_ring : (("point" : Str) = ("ring" : Str)) = False := eq_false (by decide +kernel)
theorem point_at : (("point" : Str) = ("at" : Str)) = False := eq_false (by decide +kernel)
end Wd

namespace Sk
open PySem PySem.Spec PyProof.Rows L2 Ly
theorem go_chain {op op' : D → D → Mem → Res D} {ma mb mc : ME} {env : Ly.Env} {M : Mem} {Q : D → Mem → Prop} : Go (mChain op op' ma mb mc env M) Q = Go (ma env M) fun x M1 => Go (mb env M1) fun y M2 => Go (op x y M2) fun t M3 => ∃ c, t = .bl c ∧ if c then Go (mc env M3) fun z M4 => Go (op' y z M4) Q else Q (.bl false) M3 := by
  unfold mChain
  rw [go_bind]
  congr 1
  funext x M1
  rw [go_bind]
  congr 1
  funext y M2
  rw [go_bind]
  congr 1
  funext t M3
  refine propext ⟨fun h => ?_, ?_⟩
  · split at h
    · rw [go_bind] at h
      exact ⟨true, rfl, h⟩
    · exact ⟨false, rfl, h⟩
    · exact h.elim
  · rintro ⟨c, rfl, h⟩
    cases c with
    | true =>
      rw [go_bind]
      exact h
    | false => exact h
theorem go_notV {a : ME} {env : Ly.Env} {M : Mem} {Q : D → Mem → Prop} : Go (mNotV a env M) Q = Go (a env M) fun d M1 => ∃ c, d = .bl c ∧ Q (.bl (!c)) M1 := by
  unfold mNotV
  rw [go_bind]
  congr 1
  funext d M1
  refine propext ⟨fun h => ?_, ?_⟩
  · split at h
    · exact ⟨_, rfl, h⟩
    · exact h.elim
  · rintro ⟨c, rfl, h⟩
    exact h
theorem go_orV {a b : ME} {env : Ly.Env} {M : Mem} {Q : D → Mem → Prop} : Go (mOrV a b env M) Q = Go (a env M) fun d M1 => ∃ c, d = .bl c ∧ if c then Q (.bl true) M1 else Go (b env M1) Q := by
  unfold mOrV
  rw [go_bind]
  congr 1
  funext d M1
  refine propext ⟨fun h => ?_, ?_⟩
  · split at h
    · exact ⟨true, rfl, h⟩
    · exact ⟨false, rfl, h⟩
    · exact h.elim
  · rintro ⟨c, rfl, h⟩
    cases c with
    | true => exact h
    | false => exact h
theorem blsOf_map : ∀ bs : List Bool, blsOf (bs.map .bl) = some bs
  | [] => rfl
  | b :: bs => by
    show (blsOf (bs.map .bl)).map (fun xs => b :: xs) = _
    rw [blsOf_map bs]
    rfl
theorem go_bools {f : List Bool → Bool} {bs : List Bool} {M : Mem} {Q : D → Mem → Prop} : Go (fBools f [.lst (bs.map .bl)] M) Q = Q (.bl (f bs)) M := by
  have e : fBools f [.lst (bs.map .bl)] M = .ok (.bl (f bs)) M := by
    have e2 : (lstOf (.lst (bs.map .bl)) M).bind blsOf = some bs := blsOf_map bs
    unfold fBools
    simp only [e2]
  rw [e]
  rfl
theorem go_allT {n : Nat} {M : Mem} {Q : D → Mem → Prop} : Go (fBools (fun bs => bs.all id) [.lst (List.replicate n (.bl true))] M) Q = Q (.bl true) M := by
  rw [show List.replicate n (D.bl true) = (List.replicate n true).map D.bl by rw [List.map_replicate], go_bools]
  congr 2
  rw [List.all_eq_true]
  intro b hb
  exact (List.mem_replicate.mp hb).2
/-- a comprehension that is true at each -/
theorem go_compT {g : GD} {el : ME} {chk : Mem → Prop} {env : Ly.Env} {M : Mem} {Q : List D → Mem → Prop} (hc : chk M) (ds : List D) (hl : ds.length ≤ 100000)
    (step : ∀ d ∈ ds, ∃ e1, g.f d env = some e1 ∧ Go (el e1 M) fun y M2 => y = .bl true ∧ M2 = M) (q : Q (List.replicate ds.length (.bl true)) M) : Go (compL g mYes el chk env ds [] M) Q := by
  refine go_compP (fun _ => true) (fun _ => .bl true) hc ds hl (fun d hd => ?_) ?_
  · obtain ⟨e1, h1, h2⟩ := step d hd
    exact ⟨e1, h1, rfl, rfl, fun _ => h2⟩
  · rw [List.filter_eq_self.mpr fun _ _ => rfl, List.map_const']
    exact q
/-! ### names -/
theorem letters_list : (("abcdefghijklmnopqrstuvwxyz" : Str)).cps.toList = (List.range 26).map (97 + ·) := by decide +kernel
theorem in_letters {M : Mem} {c : Nat} (h : 97 ≤ c ∧ c ≤ 122) : inM M (.str ⟨#[c]⟩) (.str "abcdefghijklmnopqrstuvwxyz") = some true := by
  show some (strIn ⟨#[c]⟩ "abcdefghijklmnopqrstuvwxyz") = some true
  congr 1
  show decide (c ∈ (("abcdefghijklmnopqrstuvwxyz" : Str)).cps.toList) = true
  rw [letters_list]
  refine decide_eq_true (List.mem_map.mpr ⟨c - 97, List.mem_range.mpr (by omega), by omega⟩)
theorem is_name_ok {M : Mem} {x : Str} {Q : D → Mem → Prop} (h : Az 1 8 x) (q : Q (.bl true) M) : Go (f_is_name [.str x] M) Q := by
  rw [f_is_name, go_callD, show startD 2 [D.str x] = [some (.str x), none] from rfl, m_is_name]
  rw [go_ret]
  have hs : (x.length : Nat) = x.cps.size := rfl
  have h1 := h.lo
  have h2 := h.hi
  simp only [go_bin, go_un, go_var, go_c, go_test, go_andT, go_orT, go_notT, go_yes, go_andV, go_if, go_nil, go_cons, go_tup, go_lst, go_lstC, go_cb, go_call, go_callW, go_meth, go_noPart, go_part, go_sl, go_get, go_retN, go_lc, go_dc, go_iter, go_enum, go_rng, go_rng1, go_rng2, go_rng3, go_disp, go_pnil, go_pcons, go_bdT, go_bdF, go_ok, go_nx, go_rt, go_addI, go_addS, go_addT, go_addL, go_subI, go_mulI, go_mulL, go_modI, go_fdivI, go_powI, go_ltI, go_leI, go_gtI, go_geI, go_eqI, go_eqS, go_neI, go_neS, go_ixF, go_ixT, go_ixS, go_ixD, go_slT, go_slF, go_slR, go_slS, go_revF, go_revCF, go_revAT, go_revAL, List.getElem?_cons_zero, List.getElem?_cons_succ, List.set_cons_zero, List.set_cons_succ, List.length_cons, List.length_nil, D.int.injEq, D.bl.injEq, D.str.injEq, Option.some.injEq, exists_eq_left', go_listF, go_listT, go_tupleF, go_tupleT, go_lenF, go_lenT, go_lenS, go_isiS, go_isiI, go_intI, go_intB, go_maxI, it_lst, it_tupD, it_strD, en_lst, en_tup, fr_gN, wipeD, go_inTab, go_notInTab, go_tab, go_lc2, go_par2, go_par3, go_chain, if_true]
  refine ⟨decide_eq_true (by omega), ?_⟩
  rw [if_pos (decide_eq_true (by omega)), if_pos (decide_eq_true (by omega))]
  refine go_compT trivial _ (by rw [List.length_map, Array.length_toList]; omega) (fun d hd => ?_) ?_
  · obtain ⟨c, hc, rfl⟩ := List.mem_map.mp hd
    refine ⟨_, rfl, ?_⟩
    simp only [go_bin, go_un, go_var, go_c, go_test, go_andT, go_orT, go_notT, go_yes, go_andV, go_if, go_nil, go_cons, go_tup, go_lst, go_lstC, go_cb, go_call, go_callW, go_meth, go_noPart, go_part, go_sl, go_get, go_retN, go_lc, go_dc, go_iter, go_enum, go_rng, go_rng1, go_rng2, go_rng3, go_disp, go_pnil, go_pcons, go_bdT, go_bdF, go_ok, go_nx, go_rt, go_addI, go_addS, go_addT, go_addL, go_subI, go_mulI, go_mulL, go_modI, go_fdivI, go_powI, go_ltI, go_leI, go_gtI, go_geI, go_eqI, go_eqS, go_neI, go_neS, go_ixF, go_ixT, go_ixS, go_ixD, go_slT, go_slF, go_slR, go_slS, go_revF, go_revCF, go_revAT, go_revAL, List.getElem?_cons_zero, List.getElem?_cons_succ, List.set_cons_zero, List.set_cons_succ, List.length_cons, List.length_nil, D.int.injEq, D.bl.injEq, D.str.injEq, Option.some.injEq, exists_eq_left', go_listF, go_listT, go_tupleF, go_tupleT, go_lenF, go_lenT, go_lenS, go_isiS, go_isiI, go_intI, go_intB, go_maxI, it_lst, it_tupD, it_strD, en_lst, en_tup, fr_gN, wipeD, go_inTab, go_notInTab, go_tab, go_lc2, go_par2, go_par3, go_in]
    exact ⟨_, in_letters (h.az c hc), rfl, trivial⟩
  · rw [go_allT]
    exact go_fin_same (frz_low rfl) q
theorem go_isiII {M : Mem} {i : Int} {Q : D → Mem → Prop} : Go (fIsi [.int i, .ty "int"] M) Q = Q (.bl true) M := id rfl
theorem go_isiIB {M : Mem} {i : Int} {Q : D → Mem → Prop} : Go (fIsi [.int i, .ty "bool"] M) Q = Q (.bl false) M := id rfl
theorem go_isiTT {M : Mem} {ds : List D} {Q : D → Mem → Prop} : Go (fIsi [.tup ds, .ty "tuple"] M) Q = Q (.bl true) M := id rfl
theorem is_within_ok {M : Mem} {lo hi k : Int} {Q : D → Mem → Prop} (h : lo ≤ k ∧ k ≤ hi) (q : Q (.bl true) M) : Go (f_is_within [.int lo, .int hi, .int k] M) Q := by
  rw [f_is_within, go_callD, show startD 3 [D.int lo, .int hi, .int k] = [some (.int lo), some (.int hi), some (.int k)] from rfl, m_is_within]
  rw [go_ret]
  simp only [go_bin, go_un, go_var, go_c, go_test, go_andT, go_orT, go_notT, go_yes, go_andV, go_if, go_nil, go_cons, go_tup, go_lst, go_lstC, go_cb, go_call, go_callW, go_meth, go_noPart, go_part, go_sl, go_get, go_retN, go_lc, go_dc, go_iter, go_enum, go_rng, go_rng1, go_rng2, go_rng3, go_disp, go_pnil, go_pcons, go_bdT, go_bdF, go_ok, go_nx, go_rt, go_addI, go_addS, go_addT, go_addL, go_subI, go_mulI, go_mulL, go_modI, go_fdivI, go_powI, go_ltI, go_leI, go_gtI, go_geI, go_eqI, go_eqS, go_neI, go_neS, go_ixF, go_ixT, go_ixS, go_ixD, go_slT, go_slF, go_slR, go_slS, go_revF, go_revCF, go_revAT, go_revAL, List.getElem?_cons_zero, List.getElem?_cons_succ, List.set_cons_zero, List.set_cons_succ, List.length_cons, List.length_nil, D.int.injEq, D.bl.injEq, D.str.injEq, Option.some.injEq, exists_eq_left', go_listF, go_listT, go_tupleF, go_tupleT, go_lenF, go_lenT, go_lenS, go_isiS, go_isiI, go_intI, go_intB, go_maxI, it_lst, it_tupD, it_strD, en_lst, en_tup, fr_gN, wipeD, go_inTab, go_notInTab, go_tab, go_lc2, go_par2, go_par3, go_chain, go_notV, go_isiII, go_isiIB]
  simp only [Bool.not_false, if_true]
  rw [if_pos (decide_eq_true h.1), decide_eq_true h.2]
  exact go_fin_same (frz_low rfl) q
def sortN (c : Nat) : Str := if c = 67 then "circle" else if c = 76 then "line" else "point"
theorem sort_of_ok {M : Mem} {s : Stp} {Q : D → Mem → Prop} (q : Q (.str (sortN (sortC s.w))) M) : Go (f_sort_of [stD s] M) Q := by
  rw [f_sort_of, go_callD, show startD 1 [stD s] = [some (stD s)] from rfl, m_sort_of]
  rw [go_seq, go_ifS]
  simp only [go_bin, go_un, go_var, go_c, go_test, go_andT, go_orT, go_notT, go_yes, go_andV, go_if, go_nil, go_cons, go_tup, go_lst, go_lstC, go_cb, go_call, go_callW, go_meth, go_noPart, go_part, go_sl, go_get, go_retN, go_lc, go_dc, go_iter, go_enum, go_rng, go_rng1, go_rng2, go_rng3, go_disp, go_pnil, go_pcons, go_bdT, go_bdF, go_ok, go_nx, go_rt, go_addI, go_addS, go_addT, go_addL, go_subI, go_mulI, go_mulL, go_modI, go_fdivI, go_powI, go_ltI, go_leI, go_gtI, go_geI, go_eqI, go_eqS, go_neI, go_neS, go_ixF, go_ixT, go_ixS, go_ixD, go_slT, go_slF, go_slR, go_slS, go_revF, go_revCF, go_revAT, go_revAL, List.getElem?_cons_zero, List.getElem?_cons_succ, List.set_cons_zero, List.set_cons_succ, List.length_cons, List.length_nil, D.int.injEq, D.bl.injEq, D.str.injEq, Option.some.injEq, exists_eq_left', go_listF, go_listT, go_tupleF, go_tupleT, go_lenF, go_lenT, go_lenS, go_isiS, go_isiI, go_intI, go_intB, go_maxI, it_lst, it_tupD, it_strD, en_lst, en_tup, fr_gN, wipeD, go_inTab, go_notInTab, go_tab, go_lc2, go_par2, go_par3, stD, at_0]
  unfold sortC at q
  split
  · next h =>
    rw [if_pos (of_decide_eq_true h)] at q
    rw [go_ret]
    simp only [go_bin, go_un, go_var, go_c, go_test, go_andT, go_orT, go_notT, go_yes, go_andV, go_if, go_nil, go_cons, go_tup, go_lst, go_lstC, go_cb, go_call, go_callW, go_meth, go_noPart, go_part, go_sl, go_get, go_retN, go_lc, go_dc, go_iter, go_enum, go_rng, go_rng1, go_rng2, go_rng3, go_disp, go_pnil, go_pcons, go_bdT, go_bdF, go_ok, go_nx, go_rt, go_addI, go_addS, go_addT, go_addL, go_subI, go_mulI, go_mulL, go_modI, go_fdivI, go_powI, go_ltI, go_leI, go_gtI, go_geI, go_eqI, go_eqS, go_neI, go_neS, go_ixF, go_ixT, go_ixS, go_ixD, go_slT, go_slF, go_slR, go_slS, go_revF, go_revCF, go_revAT, go_revAL, List.getElem?_cons_zero, List.getElem?_cons_succ, List.set_cons_zero, List.set_cons_succ, List.length_cons, List.length_nil, D.int.injEq, D.bl.injEq, D.str.injEq, Option.some.injEq, exists_eq_left', go_listF, go_listT, go_tupleF, go_tupleT, go_lenF, go_lenT, go_lenS, go_isiS, go_isiI, go_intI, go_intB, go_maxI, it_lst, it_tupD, it_strD, en_lst, en_tup, fr_gN, wipeD, go_inTab, go_notInTab, go_tab, go_lc2, go_par2, go_par3]
    exact go_fin_same (frz_low rfl) q
  · next h =>
    rw [if_neg (by simpa using h)] at q
    rw [go_next, go_ret]
    simp only [go_bin, go_un, go_var, go_c, go_test, go_andT, go_orT, go_notT, go_yes, go_andV, go_if, go_nil, go_cons, go_tup, go_lst, go_lstC, go_cb, go_call, go_callW, go_meth, go_noPart, go_part, go_sl, go_get, go_retN, go_lc, go_dc, go_iter, go_enum, go_rng, go_rng1, go_rng2, go_rng3, go_disp, go_pnil, go_pcons, go_bdT, go_bdF, go_ok, go_nx, go_rt, go_addI, go_addS, go_addT, go_addL, go_subI, go_mulI, go_mulL, go_modI, go_fdivI, go_powI, go_ltI, go_leI, go_gtI, go_geI, go_eqI, go_eqS, go_neI, go_neS, go_ixF, go_ixT, go_ixS, go_ixD, go_slT, go_slF, go_slR, go_slS, go_revF, go_revCF, go_revAT, go_revAL, List.getElem?_cons_zero, List.getElem?_cons_succ, List.set_cons_zero, List.set_cons_succ, List.length_cons, List.length_nil, D.int.injEq, D.bl.injEq, D.str.injEq, Option.some.injEq, exists_eq_left', go_listF, go_listT, go_tupleF, go_tupleT, go_lenF, go_lenT, go_lenS, go_isiS, go_isiI, go_intI, go_intB, go_maxI, it_lst, it_tupD, it_strD, en_lst, en_tup, fr_gN, wipeD, go_inTab, go_notInTab, go_tab, go_lc2, go_par2, go_par3, go_in, at_0]
    refine ⟨_, in_tup (ys := ["line", "along", "upright"]), ?_⟩
    split
    · next h2 =>
      rw [if_pos (of_decide_eq_true h2)] at q
      exact go_fin_same (frz_low rfl) q
    · next h2 =>
      rw [if_neg (by simpa using h2)] at q
      exact go_fin_same (frz_low rfl) q
theorem star_ok (s : Stp) (env : Ly.Env) (a b c : Nat) (hl : s.os.length ≤ 3) : (gStarD 3 2 [gN a, gN b, gN c]).f (stD s) env = some (((env.set a (some (.str s.w))).set b (some (.str s.n))).set c (some (.lst (s.os.map od)))) := by
  show gStarF 3 2 [gN a, gN b, gN c] (.tup (.str s.w :: .str s.n :: s.os.map od)) env = _
  unfold gStarF
  simp only []
  rw [if_pos (by rw [List.length_cons, List.length_cons, List.length_map]; omega)]
  rw [show (D.str s.w :: D.str s.n :: s.os.map od).length + 1 - 3 = (s.os.map od).length by rw [List.length_cons, List.length_cons]; omega]
  show gTs _ ([D.str s.w, D.str s.n] ++ [D.lst ((s.os.map od).take (s.os.map od).length)] ++ (s.os.map od).drop (s.os.map od).length) env = _
  rw [List.take_length, List.drop_length]
  rfl
def isS (d : D) : Bool := match d with
  | .str _ => true
  | _ => false
theorem strs_filter : ∀ os : List O, (((os.map od).filter isS).map fun d => d) = (strsO os).map .str
  | [] => rfl
  | .s x :: os => by
    show D.str x :: (((os.map od).filter isS).map fun d => d) = _
    rw [strs_filter os]
    rfl
  | .i k :: os => by
    show (((os.map od).filter isS).map fun d => d) = _
    rw [strs_filter os]
    rfl
theorem names_in_ok {M : Mem} {s : Stp} {Q : D → Mem → Prop} (hl : s.os.length ≤ 3) (q : Q (.tup ((strsO s.os).map .str)) M) : Go (f_names_in [stD s] M) Q := by
  rw [f_names_in, go_callD, show startD 5 [stD s] = [some (stD s), none, none, none, none] from rfl, m_names_in]
  rw [go_seq, go_asg]
  simp only [go_bin, go_un, go_var, go_c, go_test, go_andT, go_orT, go_notT, go_yes, go_andV, go_if, go_nil, go_cons, go_tup, go_lst, go_lstC, go_cb, go_call, go_callW, go_meth, go_noPart, go_part, go_sl, go_get, go_retN, go_lc, go_dc, go_iter, go_enum, go_rng, go_rng1, go_rng2, go_rng3, go_disp, go_pnil, go_pcons, go_bdT, go_bdF, go_ok, go_nx, go_rt, go_addI, go_addS, go_addT, go_addL, go_subI, go_mulI, go_mulL, go_modI, go_fdivI, go_powI, go_ltI, go_leI, go_gtI, go_geI, go_eqI, go_eqS, go_neI, go_neS, go_ixF, go_ixT, go_ixS, go_ixD, go_slT, go_slF, go_slR, go_slS, go_revF, go_revCF, go_revAT, go_revAL, List.getElem?_cons_zero, List.getElem?_cons_succ, List.set_cons_zero, List.set_cons_succ, List.length_cons, List.length_nil, D.int.injEq, D.bl.injEq, D.str.injEq, Option.some.injEq, exists_eq_left', go_listF, go_listT, go_tupleF, go_tupleT, go_lenF, go_lenT, go_lenS, go_isiS, go_isiI, go_intI, go_intB, go_maxI, it_lst, it_tupD, it_strD, en_lst, en_tup, fr_gN, wipeD, go_inTab, go_notInTab, go_tab, go_lc2, go_par2, go_par3]
  refine ⟨_, star_ok s _ _ _ _ hl, ?_⟩
  rw [go_ret]
  simp only [go_bin, go_un, go_var, go_c, go_test, go_andT, go_orT, go_notT, go_yes, go_andV, go_if, go_nil, go_cons, go_tup, go_lst, go_lstC, go_cb, go_call, go_callW, go_meth, go_noPart, go_part, go_sl, go_get, go_retN, go_lc, go_dc, go_iter, go_enum, go_rng, go_rng1, go_rng2, go_rng3, go_disp, go_pnil, go_pcons, go_bdT, go_bdF, go_ok, go_nx, go_rt, go_addI, go_addS, go_addT, go_addL, go_subI, go_mulI, go_mulL, go_modI, go_fdivI, go_powI, go_ltI, go_leI, go_gtI, go_geI, go_eqI, go_eqS, go_neI, go_neS, go_ixF, go_ixT, go_ixS, go_ixD, go_slT, go_slF, go_slR, go_slS, go_revF, go_revCF, go_revAT, go_revAL, List.getElem?_cons_zero, List.getElem?_cons_succ, List.set_cons_zero, List.set_cons_succ, List.length_cons, List.length_nil, D.int.injEq, D.bl.injEq, D.str.injEq, Option.some.injEq, exists_eq_left', go_listF, go_listT, go_tupleF, go_tupleT, go_lenF, go_lenT, go_lenS, go_isiS, go_isiI, go_intI, go_intB, go_maxI, it_lst, it_tupD, it_strD, en_lst, en_tup, fr_gN, wipeD, go_inTab, go_notInTab, go_tab, go_lc2, go_par2, go_par3]
  refine go_compP isS (fun d => d) trivial _ (by rw [List.length_map]; omega) (fun d hd => ?_) ?_
  · obtain ⟨o, ho, rfl⟩ := List.mem_map.mp hd
    refine ⟨_, rfl, ?_⟩
    cases o with
    | s x =>
      simp only [go_bin, go_un, go_var, go_c, go_test, go_andT, go_orT, go_notT, go_yes, go_andV, go_if, go_nil, go_cons, go_tup, go_lst, go_lstC, go_cb, go_call, go_callW, go_meth, go_noPart, go_part, go_sl, go_get, go_retN, go_lc, go_dc, go_iter, go_enum, go_rng, go_rng1, go_rng2, go_rng3, go_disp, go_pnil, go_pcons, go_bdT, go_bdF, go_ok, go_nx, go_rt, go_addI, go_addS, go_addT, go_addL, go_subI, go_mulI, go_mulL, go_modI, go_fdivI, go_powI, go_ltI, go_leI, go_gtI, go_geI, go_eqI, go_eqS, go_neI, go_neS, go_ixF, go_ixT, go_ixS, go_ixD, go_slT, go_slF, go_slR, go_slS, go_revF, go_revCF, go_revAT, go_revAL, List.getElem?_cons_zero, List.getElem?_cons_succ, List.set_cons_zero, List.set_cons_succ, List.length_cons, List.length_nil, D.int.injEq, D.bl.injEq, D.str.injEq, Option.some.injEq, exists_eq_left', go_listF, go_listT, go_tupleF, go_tupleT, go_lenF, go_lenT, go_lenS, go_isiS, go_isiI, go_intI, go_intB, go_maxI, it_lst, it_tupD, it_strD, en_lst, en_tup, fr_gN, wipeD, go_inTab, go_notInTab, go_tab, go_lc2, go_par2, go_par3, od]
      exact ⟨rfl, trivial, fun _ => ⟨trivial, trivial⟩⟩
    | i k =>
      simp only [go_bin, go_un, go_var, go_c, go_test, go_andT, go_orT, go_notT, go_yes, go_andV, go_if, go_nil, go_cons, go_tup, go_lst, go_lstC, go_cb, go_call, go_callW, go_meth, go_noPart, go_part, go_sl, go_get, go_retN, go_lc, go_dc, go_iter, go_enum, go_rng, go_rng1, go_rng2, go_rng3, go_disp, go_pnil, go_pcons, go_bdT, go_bdF, go_ok, go_nx, go_rt, go_addI, go_addS, go_addT, go_addL, go_subI, go_mulI, go_mulL, go_modI, go_fdivI, go_powI, go_ltI, go_leI, go_gtI, go_geI, go_eqI, go_eqS, go_neI, go_neS, go_ixF, go_ixT, go_ixS, go_ixD, go_slT, go_slF, go_slR, go_slS, go_revF, go_revCF, go_revAT, go_revAL, List.getElem?_cons_zero, List.getElem?_cons_succ, List.set_cons_zero, List.set_cons_succ, List.length_cons, List.length_nil, D.int.injEq, D.bl.injEq, D.str.injEq, Option.some.injEq, exists_eq_left', go_listF, go_listT, go_tupleF, go_tupleT, go_lenF, go_lenT, go_lenS, go_isiS, go_isiI, go_intI, go_intB, go_maxI, it_lst, it_tupD, it_strD, en_lst, en_tup, fr_gN, wipeD, go_inTab, go_notInTab, go_tab, go_lc2, go_par2, go_par3, od]
      exact ⟨rfl, trivial, fun z => by cases z⟩
  · rw [strs_filter]
    exact go_fin_same (frz_low (low_strs _ _)) q
end Sk

namespace Sk
open PySem PySem.Spec PyProof.Rows L2 Ly
/-! ### things known -/
def knT (ss : List Stp) : List (Str × Stp) := ss.map fun s => (s.n, s)
def knK (ss : List Stp) : List (Key × D) := kv stD (knT ss)
theorem knT_names (ss : List Stp) : (knT ss).map (·.1) = ss.map (·.n) := by
  unfold knT
  rw [List.map_map]
  rfl
theorem look_kn {ss : List Stp} (nd : (ss.map (·.n)).Nodup) {t : Stp} (ht : t ∈ ss) : look (knT ss) t.n = some t := by
  have hm : t.n ∈ (knT ss).map (·.1) := by
    rw [knT_names]
    exact List.mem_map.mpr ⟨t, ht, rfl⟩
  obtain ⟨v, h1, h2⟩ := look_some hm
  rw [h1]
  obtain ⟨u, hu, e⟩ := List.mem_map.mp h2
  have e1 := congrArg Prod.fst e
  have e2 : u = v := congrArg Prod.snd e
  subst e2
  obtain ⟨i, hi⟩ := List.mem_iff_getElem?.mp hu
  obtain ⟨j, hj⟩ := List.mem_iff_getElem?.mp ht
  have a1 : (ss.map (·.n))[i]? = some t.n := by rw [List.getElem?_map, hi]; exact congrArg some e1
  have a2 : (ss.map (·.n))[j]? = some t.n := by rw [List.getElem?_map, hj]; rfl
  have := nodup_at nd a1 a2
  subst this
  rw [hi] at hj
  exact hj
theorem val_kn {ss : List Stp} (nd : (ss.map (·.n)).Nodup) {t : Stp} (ht : t ∈ ss) : valD (knK ss) (.inr t.n) = some (stD t) := by
  unfold knK
  rw [val_kv, look_kn nd ht]
  rfl
theorem val_kn_none {ss : List Stp} {x : Str} (h : x ∉ ss.map (·.n)) : valD (knK ss) (.inr x) = none := by
  unfold knK
  rw [val_kv, look_none (by rw [knT_names]; exact h)]
  rfl
theorem num_n : tabGet t_NUMBERS ⟨#[110]⟩ = some (.tup [.int 1, .int 3]) := by rfl
theorem num_k : tabGet t_NUMBERS ⟨#[107]⟩ = some (.tup [.int 0, .int 1]) := by rfl
theorem num_no {c : Nat} (h : c = 67 ∨ c = 76 ∨ c = 80) : tabGet t_NUMBERS ⟨#[c]⟩ = none := by
  rcases h with rfl | rfl | rfl <;> rfl
theorem sort_at {c : Nat} (h : c = 67 ∨ c = 76 ∨ c = 80) : tabGet t_SORTS ⟨#[c]⟩ = some (.str (sortN c)) := by
  rcases h with rfl | rfl | rfl <;> rfl
theorem is_thing_ok {M : Mem} {n : Nat} {ss : List Stp} {c : Nat} {o : O} {Q : D → Mem → Prop} (hn : M[n]? = some (.dic (knK ss))) (nd : (ss.map (·.n)).Nodup) (h : ItemOk ss c o) (q : Q (.bl true) M) : Go (f_is_thing [.ref n, .str ⟨#[c]⟩, od o] M) Q := by
  rw [f_is_thing, go_callD, show startD 5 [.ref n, .str ⟨#[c]⟩, od o] = [some (.ref n), some (.str ⟨#[c]⟩), some (od o), none, none] from rfl, m_is_thing]
  rw [go_seq, go_ifS]
  simp only [go_bin, go_un, go_var, go_c, go_test, go_andT, go_orT, go_notT, go_yes, go_andV, go_if, go_nil, go_cons, go_tup, go_lst, go_lstC, go_cb, go_call, go_callW, go_meth, go_noPart, go_part, go_sl, go_get, go_retN, go_lc, go_dc, go_iter, go_enum, go_rng, go_rng1, go_rng2, go_rng3, go_disp, go_pnil, go_pcons, go_bdT, go_bdF, go_ok, go_nx, go_rt, go_addI, go_addS, go_addT, go_addL, go_subI, go_mulI, go_mulL, go_modI, go_fdivI, go_powI, go_ltI, go_leI, go_gtI, go_geI, go_eqI, go_eqS, go_neI, go_neS, go_ixF, go_ixT, go_ixS, go_ixD, go_slT, go_slF, go_slR, go_slS, go_revF, go_revCF, go_revAT, go_revAL, List.getElem?_cons_zero, List.getElem?_cons_succ, List.set_cons_zero, List.set_cons_succ, List.length_cons, List.length_nil, D.int.injEq, D.bl.injEq, D.str.injEq, Option.some.injEq, exists_eq_left', go_listF, go_listT, go_tupleF, go_tupleT, go_lenF, go_lenT, go_lenS, go_isiS, go_isiI, go_intI, go_intB, go_maxI, it_lst, it_tupD, it_strD, en_lst, en_tup, fr_gN, wipeD, go_inTab, go_notInTab, go_tab, go_lc2, go_par2, go_par3]
  cases h with
  | n h1 h2 =>
    rw [num_n, Option.isSome_some, if_pos rfl, go_seq, go_asg]
    simp only [go_bin, go_un, go_var, go_c, go_test, go_andT, go_orT, go_notT, go_yes, go_andV, go_if, go_nil, go_cons, go_tup, go_lst, go_lstC, go_cb, go_call, go_callW, go_meth, go_noPart, go_part, go_sl, go_get, go_retN, go_lc, go_dc, go_iter, go_enum, go_rng, go_rng1, go_rng2, go_rng3, go_disp, go_pnil, go_pcons, go_bdT, go_bdF, go_ok, go_nx, go_rt, go_addI, go_addS, go_addT, go_addL, go_subI, go_mulI, go_mulL, go_modI, go_fdivI, go_powI, go_ltI, go_leI, go_gtI, go_geI, go_eqI, go_eqS, go_neI, go_neS, go_ixF, go_ixT, go_ixS, go_ixD, go_slT, go_slF, go_slR, go_slS, go_revF, go_revCF, go_revAT, go_revAL, List.getElem?_cons_zero, List.getElem?_cons_succ, List.set_cons_zero, List.set_cons_succ, List.length_cons, List.length_nil, D.int.injEq, D.bl.injEq, D.str.injEq, Option.some.injEq, exists_eq_left', go_listF, go_listT, go_tupleF, go_tupleT, go_lenF, go_lenT, go_lenS, go_isiS, go_isiI, go_intI, go_intB, go_maxI, it_lst, it_tupD, it_strD, en_lst, en_tup, fr_gN, wipeD, go_inTab, go_notInTab, go_tab, go_lc2, go_par2, go_par3]
    refine ⟨_, num_n, _, rfl, ?_⟩
    rw [go_ret]
    simp only [go_bin, go_un, go_var, go_c, go_test, go_andT, go_orT, go_notT, go_yes, go_andV, go_if, go_nil, go_cons, go_tup, go_lst, go_lstC, go_cb, go_call, go_callW, go_meth, go_noPart, go_part, go_sl, go_get, go_retN, go_lc, go_dc, go_iter, go_enum, go_rng, go_rng1, go_rng2, go_rng3, go_disp, go_pnil, go_pcons, go_bdT, go_bdF, go_ok, go_nx, go_rt, go_addI, go_addS, go_addT, go_addL, go_subI, go_mulI, go_mulL, go_modI, go_fdivI, go_powI, go_ltI, go_leI, go_gtI, go_geI, go_eqI, go_eqS, go_neI, go_neS, go_ixF, go_ixT, go_ixS, go_ixD, go_slT, go_slF, go_slR, go_slS, go_revF, go_revCF, go_revAT, go_revAL, List.getElem?_cons_zero, List.getElem?_cons_succ, List.set_cons_zero, List.set_cons_succ, List.length_cons, List.length_nil, D.int.injEq, D.bl.injEq, D.str.injEq, Option.some.injEq, exists_eq_left', go_listF, go_listT, go_tupleF, go_tupleT, go_lenF, go_lenT, go_lenS, go_isiS, go_isiI, go_intI, go_intB, go_maxI, it_lst, it_tupD, it_strD, en_lst, en_tup, fr_gN, wipeD, go_inTab, go_notInTab, go_tab, go_lc2, go_par2, go_par3]
    exact ⟨trivial, is_within_ok ⟨h1, h2⟩ (go_fin_same (frz_low rfl) q)⟩
  | k h1 h2 =>
    rw [num_k, Option.isSome_some, if_pos rfl, go_seq, go_asg]
    simp only [go_bin, go_un, go_var, go_c, go_test, go_andT, go_orT, go_notT, go_yes, go_andV, go_if, go_nil, go_cons, go_tup, go_lst, go_lstC, go_cb, go_call, go_callW, go_meth, go_noPart, go_part, go_sl, go_get, go_retN, go_lc, go_dc, go_iter, go_enum, go_rng, go_rng1, go_rng2, go_rng3, go_disp, go_pnil, go_pcons, go_bdT, go_bdF, go_ok, go_nx, go_rt, go_addI, go_addS, go_addT, go_addL, go_subI, go_mulI, go_mulL, go_modI, go_fdivI, go_powI, go_ltI, go_leI, go_gtI, go_geI, go_eqI, go_eqS, go_neI, go_neS, go_ixF, go_ixT, go_ixS, go_ixD, go_slT, go_slF, go_slR, go_slS, go_revF, go_revCF, go_revAT, go_revAL, List.getElem?_cons_zero, List.getElem?_cons_succ, List.set_cons_zero, List.set_cons_succ, List.length_cons, List.length_nil, D.int.injEq, D.bl.injEq, D.str.injEq, Option.some.injEq, exists_eq_left', go_listF, go_listT, go_tupleF, go_tupleT, go_lenF, go_lenT, go_lenS, go_isiS, go_isiI, go_intI, go_intB, go_maxI, it_lst, it_tupD, it_strD, en_lst, en_tup, fr_gN, wipeD, go_inTab, go_notInTab, go_tab, go_lc2, go_par2, go_par3]
    refine ⟨_, num_k, _, rfl, ?_⟩
    rw [go_ret]
    simp only [go_bin, go_un, go_var, go_c, go_test, go_andT, go_orT, go_notT, go_yes, go_andV, go_if, go_nil, go_cons, go_tup, go_lst, go_lstC, go_cb, go_call, go_callW, go_meth, go_noPart, go_part, go_sl, go_get, go_retN, go_lc, go_dc, go_iter, go_enum, go_rng, go_rng1, go_rng2, go_rng3, go_disp, go_pnil, go_pcons, go_bdT, go_bdF, go_ok, go_nx, go_rt, go_addI, go_addS, go_addT, go_addL, go_subI, go_mulI, go_mulL, go_modI, go_fdivI, go_powI, go_ltI, go_leI, go_gtI, go_geI, go_eqI, go_eqS, go_neI, go_neS, go_ixF, go_ixT, go_ixS, go_ixD, go_slT, go_slF, go_slR, go_slS, go_revF, go_revCF, go_revAT, go_revAL, List.getElem?_cons_zero, List.getElem?_cons_succ, List.set_cons_zero, List.set_cons_succ, List.length_cons, List.length_nil, D.int.injEq, D.bl.injEq, D.str.injEq, Option.some.injEq, exists_eq_left', go_listF, go_listT, go_tupleF, go_tupleT, go_lenF, go_lenT, go_lenS, go_isiS, go_isiI, go_intI, go_intB, go_maxI, it_lst, it_tupD, it_strD, en_lst, en_tup, fr_gN, wipeD, go_inTab, go_notInTab, go_tab, go_lc2, go_par2, go_par3]
    exact ⟨trivial, is_within_ok ⟨h1, h2⟩ (go_fin_same (frz_low rfl) q)⟩
  | @s t ht =>
    have hc := sortC_cases t.w
    rw [num_no hc, Option.isSome_none, if_neg Bool.false_ne_true, go_next, go_ret]
    simp only [go_bin, go_un, go_var, go_c, go_test, go_andT, go_orT, go_notT, go_yes, go_andV, go_if, go_nil, go_cons, go_tup, go_lst, go_lstC, go_cb, go_call, go_callW, go_meth, go_noPart, go_part, go_sl, go_get, go_retN, go_lc, go_dc, go_iter, go_enum, go_rng, go_rng1, go_rng2, go_rng3, go_disp, go_pnil, go_pcons, go_bdT, go_bdF, go_ok, go_nx, go_rt, go_addI, go_addS, go_addT, go_addL, go_subI, go_mulI, go_mulL, go_modI, go_fdivI, go_powI, go_ltI, go_leI, go_gtI, go_geI, go_eqI, go_eqS, go_neI, go_neS, go_ixF, go_ixT, go_ixS, go_ixD, go_slT, go_slF, go_slR, go_slS, go_revF, go_revCF, go_revAT, go_revAL, List.getElem?_cons_zero, List.getElem?_cons_succ, List.set_cons_zero, List.set_cons_succ, List.length_cons, List.length_nil, D.int.injEq, D.bl.injEq, D.str.injEq, Option.some.injEq, exists_eq_left', go_listF, go_listT, go_tupleF, go_tupleT, go_lenF, go_lenT, go_lenS, go_isiS, go_isiI, go_intI, go_intB, go_maxI, it_lst, it_tupD, it_strD, en_lst, en_tup, fr_gN, wipeD, go_inTab, go_notInTab, go_tab, go_lc2, go_par2, go_par3, od, go_in, in_dicC hn, go_ixDC hn, val_kn nd ht, if_true, Option.isSome_some]
    refine ⟨trivial, sort_of_ok ⟨_, sort_at hc, ?_⟩⟩
    simp only [go_bin, go_un, go_var, go_c, go_test, go_andT, go_orT, go_notT, go_yes, go_andV, go_if, go_nil, go_cons, go_tup, go_lst, go_lstC, go_cb, go_call, go_callW, go_meth, go_noPart, go_part, go_sl, go_get, go_retN, go_lc, go_dc, go_iter, go_enum, go_rng, go_rng1, go_rng2, go_rng3, go_disp, go_pnil, go_pcons, go_bdT, go_bdF, go_ok, go_nx, go_rt, go_addI, go_addS, go_addT, go_addL, go_subI, go_mulI, go_mulL, go_modI, go_fdivI, go_powI, go_ltI, go_leI, go_gtI, go_geI, go_eqI, go_eqS, go_neI, go_neS, go_ixF, go_ixT, go_ixS, go_ixD, go_slT, go_slF, go_slR, go_slS, go_revF, go_revCF, go_revAT, go_revAL, List.getElem?_cons_zero, List.getElem?_cons_succ, List.set_cons_zero, List.set_cons_succ, List.length_cons, List.length_nil, D.int.injEq, D.bl.injEq, D.str.injEq, Option.some.injEq, exists_eq_left', go_listF, go_listT, go_tupleF, go_tupleT, go_lenF, go_lenT, go_lenS, go_isiS, go_isiI, go_intI, go_intB, go_maxI, it_lst, it_tupD, it_strD, en_lst, en_tup, fr_gN, wipeD, go_inTab, go_notInTab, go_tab, go_lc2, go_par2, go_par3, decide_true]
    exact go_fin_same (frz_low rfl) q
/-! ### the word other -/
theorem line_os {ss : List Stp} {l : Stp} (h : Fit ss l) {p : Str} (t : Thru l p) : ∃ a b, l.os = [.s a, .s b] := by
  have : l.w = "line" ∨ l.w = "along" ∨ l.w = "upright" := by
    rcases t with ⟨h, _⟩ | ⟨h | h, _⟩
    · exact .inl h
    · exact .inr (.inl h)
    · exact .inr (.inr h)
  have key : ∃ z w, (l.w, [80, z]) ∈ formL ∧ l.w = w ∧ (w, [80, z]) ∈ formL ∧ z ≠ 110 ∧ z ≠ 107 := by
    rcases this with e | e | e <;> rw [e]
    · exact ⟨80, _, by decide +kernel, rfl, by decide +kernel, by decide, by decide⟩
    · exact ⟨76, _, by decide +kernel, rfl, by decide +kernel, by decide, by decide⟩
    · exact ⟨76, _, by decide +kernel, rfl, by decide +kernel, by decide, by decide⟩
  obtain ⟨z, w, _, e, hz, h1, h2⟩ := key
  obtain ⟨x, y, e, hx, hy⟩ := (h.at e hz).two
  obtain ⟨_, _, rfl, _⟩ := hx.str (by decide) (by decide)
  obtain ⟨_, _, rfl, _⟩ := hy.str h1 h2
  exact ⟨_, _, e⟩
theorem is_through_ok {M : Mem} {l : Stp} {a b p : Str} {Q : D → Mem → Prop} (e : l.os = [.s a, .s b]) (t : Thru l p) (q : Q (.bl true) M) : Go (f_is_through [stD l, .str p] M) Q := by
  rw [f_is_through, go_callD, show startD 6 [stD l, .str p] = [some (stD l), some (.str p), none, none, none, none] from rfl, m_is_through]
  rw [go_seq, go_asg]
  simp only [go_bin, go_un, go_var, go_c, go_test, go_andT, go_orT, go_notT, go_yes, go_andV, go_if, go_nil, go_cons, go_tup, go_lst, go_lstC, go_cb, go_call, go_callW, go_meth, go_noPart, go_part, go_sl, go_get, go_retN, go_lc, go_dc, go_iter, go_enum, go_rng, go_rng1, go_rng2, go_rng3, go_disp, go_pnil, go_pcons, go_bdT, go_bdF, go_ok, go_nx, go_rt, go_addI, go_addS, go_addT, go_addL, go_subI, go_mulI, go_mulL, go_modI, go_fdivI, go_powI, go_ltI, go_leI, go_gtI, go_geI, go_eqI, go_eqS, go_neI, go_neS, go_ixF, go_ixT, go_ixS, go_ixD, go_slT, go_slF, go_slR, go_slS, go_revF, go_revCF, go_revAT, go_revAL, List.getElem?_cons_zero, List.getElem?_cons_succ, List.set_cons_zero, List.set_cons_succ, List.length_cons, List.length_nil, D.int.injEq, D.bl.injEq, D.str.injEq, Option.some.injEq, exists_eq_left', go_listF, go_listT, go_tupleF, go_tupleT, go_lenF, go_lenT, go_lenS, go_isiS, go_isiI, go_intI, go_intB, go_maxI, it_lst, it_tupD, it_strD, en_lst, en_tup, fr_gN, wipeD, go_inTab, go_notInTab, go_tab, go_lc2, go_par2, go_par3, stD, e, List.map_cons, List.map_nil]
  refine ⟨_, rfl, ?_⟩
  rw [go_ret]
  simp only [go_bin, go_un, go_var, go_c, go_test, go_andT, go_orT, go_notT, go_yes, go_andV, go_if, go_nil, go_cons, go_tup, go_lst, go_lstC, go_cb, go_call, go_callW, go_meth, go_noPart, go_part, go_sl, go_get, go_retN, go_lc, go_dc, go_iter, go_enum, go_rng, go_rng1, go_rng2, go_rng3, go_disp, go_pnil, go_pcons, go_bdT, go_bdF, go_ok, go_nx, go_rt, go_addI, go_addS, go_addT, go_addL, go_subI, go_mulI, go_mulL, go_modI, go_fdivI, go_powI, go_ltI, go_leI, go_gtI, go_geI, go_eqI, go_eqS, go_neI, go_neS, go_ixF, go_ixT, go_ixS, go_ixD, go_slT, go_slF, go_slR, go_slS, go_revF, go_revCF, go_revAT, go_revAL, List.getElem?_cons_zero, List.getElem?_cons_succ, List.set_cons_zero, List.set_cons_succ, List.length_cons, List.length_nil, D.int.injEq, D.bl.injEq, D.str.injEq, Option.some.injEq, exists_eq_left', go_listF, go_listT, go_tupleF, go_tupleT, go_lenF, go_lenT, go_lenS, go_isiS, go_isiI, go_intI, go_intB, go_maxI, it_lst, it_tupD, it_strD, en_lst, en_tup, fr_gN, wipeD, go_inTab, go_notInTab, go_tab, go_lc2, go_par2, go_par3, go_orV, od]
  rcases t with ⟨hw, hp⟩ | ⟨_, hp⟩
  · rw [e] at hp
    by_cases ha : p = a
    · rw [if_pos (decide_eq_true ha)]
      exact go_fin_same (frz_low rfl) q
    · have hb : p = b := by
        simp only [List.mem_cons, List.not_mem_nil, or_false, O.s.injEq] at hp
        exact hp.resolve_left ha
      rw [if_neg (by simpa using ha), if_pos (decide_eq_true hw), decide_eq_true hb]
      exact go_fin_same (frz_low rfl) q
  · rw [e] at hp
    have ha : p = a := by
      have : a = p := by simpa using hp
      exact this.symm
    rw [if_pos (decide_eq_true ha)]
    exact go_fin_same (frz_low rfl) q
theorem os_le {ss : List Stp} {s : Stp} (h : Fit ss s) : s.os.length ≤ 3 := by
  obtain ⟨z, h1, h2⟩ := h.form
  rw [← h2.length]
  have key : ∀ p ∈ formL, p.2.length ≤ 3 := by decide +kernel
  exact key _ h1
theorem is_met_ok {M : Mem} {n : Nat} {ss : List Stp} {s : Stp} {Q : D → Mem → Prop} (hn : M[n]? = some (.dic (knK ss))) (ok : SkOk ss) (h : Fit ss s) (q : Q (.bl true) M) : Go (f_is_met [.ref n, stD s] M) Q := by
  rw [f_is_met, go_callD, show startD 8 [.ref n, stD s] = [some (.ref n), some (stD s), none, none, none, none, none, none] from rfl, m_is_met]
  rw [go_seq, go_asg]
  simp only [go_bin, go_un, go_var, go_c, go_test, go_andT, go_orT, go_notT, go_yes, go_andV, go_if, go_nil, go_cons, go_tup, go_lst, go_lstC, go_cb, go_call, go_callW, go_meth, go_noPart, go_part, go_sl, go_get, go_retN, go_lc, go_dc, go_iter, go_enum, go_rng, go_rng1, go_rng2, go_rng3, go_disp, go_pnil, go_pcons, go_bdT, go_bdF, go_ok, go_nx, go_rt, go_addI, go_addS, go_addT, go_addL, go_subI, go_mulI, go_mulL, go_modI, go_fdivI, go_powI, go_ltI, go_leI, go_gtI, go_geI, go_eqI, go_eqS, go_neI, go_neS, go_ixF, go_ixT, go_ixS, go_ixD, go_slT, go_slF, go_slR, go_slS, go_revF, go_revCF, go_revAT, go_revAL, List.getElem?_cons_zero, List.getElem?_cons_succ, List.set_cons_zero, List.set_cons_succ, List.length_cons, List.length_nil, D.int.injEq, D.bl.injEq, D.str.injEq, Option.some.injEq, exists_eq_left', go_listF, go_listT, go_tupleF, go_tupleT, go_lenF, go_lenT, go_lenS, go_isiS, go_isiI, go_intI, go_intB, go_maxI, it_lst, it_tupD, it_strD, en_lst, en_tup, fr_gN, wipeD, go_inTab, go_notInTab, go_tab, go_lc2, go_par2, go_par3]
  refine ⟨_, star_ok s _ _ _ _ (os_le h), ?_⟩
  rw [go_seq, go_ifS]
  simp only [go_bin, go_un, go_var, go_c, go_test, go_andT, go_orT, go_notT, go_yes, go_andV, go_if, go_nil, go_cons, go_tup, go_lst, go_lstC, go_cb, go_call, go_callW, go_meth, go_noPart, go_part, go_sl, go_get, go_retN, go_lc, go_dc, go_iter, go_enum, go_rng, go_rng1, go_rng2, go_rng3, go_disp, go_pnil, go_pcons, go_bdT, go_bdF, go_ok, go_nx, go_rt, go_addI, go_addS, go_addT, go_addL, go_subI, go_mulI, go_mulL, go_modI, go_fdivI, go_powI, go_ltI, go_leI, go_gtI, go_geI, go_eqI, go_eqS, go_neI, go_neS, go_ixF, go_ixT, go_ixS, go_ixD, go_slT, go_slF, go_slR, go_slS, go_revF, go_revCF, go_revAT, go_revAL, List.getElem?_cons_zero, List.getElem?_cons_succ, List.set_cons_zero, List.set_cons_succ, List.length_cons, List.length_nil, D.int.injEq, D.bl.injEq, D.str.injEq, Option.some.injEq, exists_eq_left', go_listF, go_listT, go_tupleF, go_tupleT, go_lenF, go_lenT, go_lenS, go_isiS, go_isiI, go_intI, go_intB, go_maxI, it_lst, it_tupD, it_strD, en_lst, en_tup, fr_gN, wipeD, go_inTab, go_notInTab, go_tab, go_lc2, go_par2, go_par3]
  by_cases hw : s.w = "other"
  · rw [if_neg (by simp [hw]), go_next, go_seq, go_asg]
    obtain ⟨l, hl, c, hc, p, m, eo, cw, co, th⟩ := h.oth hw
    simp only [go_bin, go_un, go_var, go_c, go_test, go_andT, go_orT, go_notT, go_yes, go_andV, go_if, go_nil, go_cons, go_tup, go_lst, go_lstC, go_cb, go_call, go_callW, go_meth, go_noPart, go_part, go_sl, go_get, go_retN, go_lc, go_dc, go_iter, go_enum, go_rng, go_rng1, go_rng2, go_rng3, go_disp, go_pnil, go_pcons, go_bdT, go_bdF, go_ok, go_nx, go_rt, go_addI, go_addS, go_addT, go_addL, go_subI, go_mulI, go_mulL, go_modI, go_fdivI, go_powI, go_ltI, go_leI, go_gtI, go_geI, go_eqI, go_eqS, go_neI, go_neS, go_ixF, go_ixT, go_ixS, go_ixD, go_slT, go_slF, go_slR, go_slS, go_revF, go_revCF, go_revAT, go_revAL, List.getElem?_cons_zero, List.getElem?_cons_succ, List.set_cons_zero, List.set_cons_succ, List.length_cons, List.length_nil, D.int.injEq, D.bl.injEq, D.str.injEq, Option.some.injEq, exists_eq_left', go_listF, go_listT, go_tupleF, go_tupleT, go_lenF, go_lenT, go_lenS, go_isiS, go_isiI, go_intI, go_intB, go_maxI, it_lst, it_tupD, it_strD, en_lst, en_tup, fr_gN, wipeD, go_inTab, go_notInTab, go_tab, go_lc2, go_par2, go_par3, eo, List.map_cons, List.map_nil, od]
    refine ⟨_, rfl, ?_⟩
    rw [go_ret]
    obtain ⟨a, b, el⟩ := line_os (ok.mem hl) th
    simp only [go_bin, go_un, go_var, go_c, go_test, go_andT, go_orT, go_notT, go_yes, go_andV, go_if, go_nil, go_cons, go_tup, go_lst, go_lstC, go_cb, go_call, go_callW, go_meth, go_noPart, go_part, go_sl, go_get, go_retN, go_lc, go_dc, go_iter, go_enum, go_rng, go_rng1, go_rng2, go_rng3, go_disp, go_pnil, go_pcons, go_bdT, go_bdF, go_ok, go_nx, go_rt, go_addI, go_addS, go_addT, go_addL, go_subI, go_mulI, go_mulL, go_modI, go_fdivI, go_powI, go_ltI, go_leI, go_gtI, go_geI, go_eqI, go_eqS, go_neI, go_neS, go_ixF, go_ixT, go_ixS, go_ixD, go_slT, go_slF, go_slR, go_slS, go_revF, go_revCF, go_revAT, go_revAL, List.getElem?_cons_zero, List.getElem?_cons_succ, List.set_cons_zero, List.set_cons_succ, List.length_cons, List.length_nil, D.int.injEq, D.bl.injEq, D.str.injEq, Option.some.injEq, exists_eq_left', go_listF, go_listT, go_tupleF, go_tupleT, go_lenF, go_lenT, go_lenS, go_isiS, go_isiI, go_intI, go_intB, go_maxI, it_lst, it_tupD, it_strD, en_lst, en_tup, fr_gN, wipeD, go_inTab, go_notInTab, go_tab, go_lc2, go_par2, go_par3, go_ixDC hn, val_kn ok.nd hl, val_kn ok.nd hc]
    refine ⟨trivial, is_through_ok el th ?_⟩
    simp only [go_bin, go_un, go_var, go_c, go_test, go_andT, go_orT, go_notT, go_yes, go_andV, go_if, go_nil, go_cons, go_tup, go_lst, go_lstC, go_cb, go_call, go_callW, go_meth, go_noPart, go_part, go_sl, go_get, go_retN, go_lc, go_dc, go_iter, go_enum, go_rng, go_rng1, go_rng2, go_rng3, go_disp, go_pnil, go_pcons, go_bdT, go_bdF, go_ok, go_nx, go_rt, go_addI, go_addS, go_addT, go_addL, go_subI, go_mulI, go_mulL, go_modI, go_fdivI, go_powI, go_ltI, go_leI, go_gtI, go_geI, go_eqI, go_eqS, go_neI, go_neS, go_ixF, go_ixT, go_ixS, go_ixD, go_slT, go_slF, go_slR, go_slS, go_revF, go_revCF, go_revAT, go_revAL, List.getElem?_cons_zero, List.getElem?_cons_succ, List.set_cons_zero, List.set_cons_succ, List.length_cons, List.length_nil, D.int.injEq, D.bl.injEq, D.str.injEq, Option.some.injEq, exists_eq_left', go_listF, go_listT, go_tupleF, go_tupleT, go_lenF, go_lenT, go_lenS, go_isiS, go_isiI, go_intI, go_intB, go_maxI, it_lst, it_tupD, it_strD, en_lst, en_tup, fr_gN, wipeD, go_inTab, go_notInTab, go_tab, go_lc2, go_par2, go_par3, go_ixDC hn, val_kn ok.nd hc, stD, co, List.map_cons, List.map_nil, at_3, od, if_true, decide_true]
    exact go_fin_same (frz_low rfl) q
  · rw [if_pos (by simpa using hw), go_ret]
    simp only [go_bin, go_un, go_var, go_c, go_test, go_andT, go_orT, go_notT, go_yes, go_andV, go_if, go_nil, go_cons, go_tup, go_lst, go_lstC, go_cb, go_call, go_callW, go_meth, go_noPart, go_part, go_sl, go_get, go_retN, go_lc, go_dc, go_iter, go_enum, go_rng, go_rng1, go_rng2, go_rng3, go_disp, go_pnil, go_pcons, go_bdT, go_bdF, go_ok, go_nx, go_rt, go_addI, go_addS, go_addT, go_addL, go_subI, go_mulI, go_mulL, go_modI, go_fdivI, go_powI, go_ltI, go_leI, go_gtI, go_geI, go_eqI, go_eqS, go_neI, go_neS, go_ixF, go_ixT, go_ixS, go_ixD, go_slT, go_slF, go_slR, go_slS, go_revF, go_revCF, go_revAT, go_revAL, List.getElem?_cons_zero, List.getElem?_cons_succ, List.set_cons_zero, List.set_cons_succ, List.length_cons, List.length_nil, D.int.injEq, D.bl.injEq, D.str.injEq, Option.some.injEq, exists_eq_left', go_listF, go_listT, go_tupleF, go_tupleT, go_lenF, go_lenT, go_lenS, go_isiS, go_isiI, go_intI, go_intB, go_maxI, it_lst, it_tupD, it_strD, en_lst, en_tup, fr_gN, wipeD, go_inTab, go_notInTab, go_tab, go_lc2, go_par2, go_par3]
    exact go_fin_same (frz_low rfl) q
end Sk

namespace Sk
open PySem PySem.Spec PyProof.Rows L2 Ly
theorem form_tab {w : Str} {z : List Nat} (h : (w, z) ∈ formL) : tabGet t_FORMS w = some (.str ⟨z.toArray⟩) := by
  simp only [formL, List.mem_cons, List.not_mem_nil, or_false, Prod.mk.injEq] at h
  rcases h with ⟨rfl, rfl⟩ | ⟨rfl, rfl⟩ | ⟨rfl, rfl⟩ | ⟨rfl, rfl⟩ | ⟨rfl, rfl⟩ | ⟨rfl, rfl⟩ | ⟨rfl, rfl⟩ | ⟨rfl, rfl⟩ | ⟨rfl, rfl⟩ | ⟨rfl, rfl⟩ | ⟨rfl, rfl⟩ | ⟨rfl, rfl⟩ | ⟨rfl, rfl⟩ | ⟨rfl, rfl⟩ <;> rfl
theorem pair_mem {ss : List Stp} : ∀ {z : List Nat} {os : List O}, All2 (ItemOk ss) z os → ∀ d ∈ paired (z.map fun c => D.str ⟨#[c]⟩) (os.map od), ∃ c o, d = .tup [.str ⟨#[c]⟩, od o] ∧ ItemOk ss c o
  | _, _, .nil, d, h => by cases h
  | _, _, @All2.cons _ _ _ c o _ _ r t, d, h => by
    rcases List.mem_cons.mp h with rfl | h
    · exact ⟨c, o, rfl, r⟩
    · exact pair_mem t d h
theorem pair_len : ∀ {xs ys : List D}, xs.length = ys.length → (paired xs ys).length = xs.length
  | [], _, _ => rfl
  | x :: xs, [], h => by cases h
  | x :: xs, y :: ys, h => by
    show (paired xs ys).length + 1 = _
    rw [pair_len (by simpa using h)]
    rfl
/-- a set of texts, each once -/
theorem set_comp {g : Nat} {chk : Mem → Prop} {env : Ly.Env} {M : Mem} {Q : List Key → Mem → Prop} (hc : chk M) (xs : List Str) (nd : xs.Nodup) (hl : xs.length ≤ 3000) (hg : g < env.length) (q : Q (xs.map .inr) M) : Go (compS (gN g) mYes (mVar g) chk env (xs.map .str) [] M) Q := by
  refine go_compS (fun rem acc M' => M' = M ∧ ∃ pre post, xs = pre ++ post ∧ rem = post.map D.str ∧ acc = pre.map .inr) ?_ ?_ _ _ _ ⟨rfl, [], xs, rfl, rfl, rfl⟩
  · rintro d rem acc M' ⟨rfl, pre, post, e, er, rfl⟩
    cases post with
    | nil => cases er
    | cons x post =>
      cases er
      refine ⟨hc, _, rfl, ?_⟩
      rw [go_yes, if_pos rfl, go_var, List.getElem?_set_self hg]
      refine ⟨_, rfl, ?_, rfl, pre ++ [x], post, by rw [e]; simp, rfl, ?_⟩
      · rw [List.length_map]
        have : xs.length = pre.length + (post.length + 1) := by rw [e, List.length_append, List.length_cons]
        omega
      · unfold addKey
        rw [if_neg, List.map_append]
        · rfl
        · rw [memK_iff]
          intro z
          obtain ⟨y, hy, ey⟩ := List.mem_map.mp z
          cases ey
          rw [e] at nd
          rw [List.nodup_append] at nd
          exact nd.2.2 _ hy _ List.mem_cons_self rfl
  · rintro acc M' ⟨rfl, pre, post, e, er, rfl⟩
    have : post = [] := by
      cases post with
      | nil => rfl
      | cons s post => cases er
    subst this
    rw [List.append_nil] at e
    subst e
    exact ⟨hc, q⟩
theorem strsO_le (os : List O) : (strsO os).length ≤ os.length := List.length_filterMap_le _ _
theorem fits_behind_ok {M : Mem} {n : Nat} {ss : List Stp} {s : Stp} {Q : D → Mem → Prop} (hn : M[n]? = some (.dic (knK ss))) (ok : SkOk ss) (h : Fit ss s) (hs : s.n ∉ ss.map (·.n)) (q : Q (.bl true) M) : Go (f_fits_behind [.ref n, stD s] M) Q := by
  rw [f_fits_behind, go_callD, show startD 10 [.ref n, stD s] = [some (.ref n), some (stD s), none, none, none, none, none, none, none, none] from rfl, m_fits_behind]
  obtain ⟨z, hz, hit⟩ := h.form
  have hlen := hit.length
  have h3 := os_le h
  have ft := form_tab hz
  rw [go_seq, go_ifS]
  simp only [go_bin, go_un, go_var, go_c, go_test, go_andT, go_orT, go_notT, go_yes, go_andV, go_if, go_nil, go_cons, go_tup, go_lst, go_lstC, go_cb, go_call, go_callW, go_meth, go_noPart, go_part, go_sl, go_get, go_retN, go_lc, go_dc, go_iter, go_enum, go_rng, go_rng1, go_rng2, go_rng3, go_disp, go_pnil, go_pcons, go_bdT, go_bdF, go_ok, go_nx, go_rt, go_addI, go_addS, go_addT, go_addL, go_subI, go_mulI, go_mulL, go_modI, go_fdivI, go_powI, go_ltI, go_leI, go_gtI, go_geI, go_eqI, go_eqS, go_neI, go_neS, go_ixF, go_ixT, go_ixS, go_ixD, go_slT, go_slF, go_slR, go_slS, go_revF, go_revCF, go_revAT, go_revAL, List.getElem?_cons_zero, List.getElem?_cons_succ, List.set_cons_zero, List.set_cons_succ, List.length_cons, List.length_nil, D.int.injEq, D.bl.injEq, D.str.injEq, Option.some.injEq, exists_eq_left', go_listF, go_listT, go_tupleF, go_tupleT, go_lenF, go_lenT, go_lenS, go_isiS, go_isiI, go_intI, go_intB, go_maxI, it_lst, it_tupD, it_strD, en_lst, en_tup, fr_gN, wipeD, go_inTab, go_notInTab, go_tab, go_lc2, go_par2, go_par3]
  have e1 : Go (fIsi [stD s, .ty "tuple"] M) = fun Q => Q (.bl true) M := by
    funext Q
    exact go_isiTT
  have e2 : Go (fLen [stD s] M) = fun Q => Q (.int (((s.os.length + 2 : Nat)) : Int)) M := by
    funext Q
    show Go (fLen [.tup (.str s.w :: .str s.n :: s.os.map od)] M) Q = _
    rw [go_lenT, List.length_cons, List.length_cons, List.length_map]
  have e3 : Go (opIx (stD s) (.int 0) M) = fun Q => Q (.str s.w) M := by
    funext Q
    show Go (opIx (.tup (.str s.w :: .str s.n :: s.os.map od)) (.int 0) M) Q = _
    rw [go_ixT]
    simp only [at_0, Option.some.injEq, exists_eq_left']
  simp only [e1, e2, e3, go_bin, go_un, go_var, go_c, go_test, go_andT, go_orT, go_notT, go_yes, go_andV, go_if, go_nil, go_cons, go_tup, go_lst, go_lstC, go_cb, go_call, go_callW, go_meth, go_noPart, go_part, go_sl, go_get, go_retN, go_lc, go_dc, go_iter, go_enum, go_rng, go_rng1, go_rng2, go_rng3, go_disp, go_pnil, go_pcons, go_bdT, go_bdF, go_ok, go_nx, go_rt, go_addI, go_addS, go_addT, go_addL, go_subI, go_mulI, go_mulL, go_modI, go_fdivI, go_powI, go_ltI, go_leI, go_gtI, go_geI, go_eqI, go_eqS, go_neI, go_neS, go_ixF, go_ixT, go_ixS, go_ixD, go_slT, go_slF, go_slR, go_slS, go_revF, go_revCF, go_revAT, go_revAL, List.getElem?_cons_zero, List.getElem?_cons_succ, List.set_cons_zero, List.set_cons_succ, List.length_cons, List.length_nil, D.int.injEq, D.bl.injEq, D.str.injEq, Option.some.injEq, exists_eq_left', go_listF, go_listT, go_tupleF, go_tupleT, go_lenF, go_lenT, go_lenS, go_isiS, go_isiI, go_intI, go_intB, go_maxI, it_lst, it_tupD, it_strD, en_lst, en_tup, fr_gN, wipeD, go_inTab, go_notInTab, go_tab, go_lc2, go_par2, go_par3, Bool.not_true, Bool.false_eq_true, if_false, ft, Option.isSome_some]
  rw [if_neg (by simp only [decide_eq_true_eq]; omega)]
  rw [go_next, go_seq, go_asg]
  simp only [go_bin, go_un, go_var, go_c, go_test, go_andT, go_orT, go_notT, go_yes, go_andV, go_if, go_nil, go_cons, go_tup, go_lst, go_lstC, go_cb, go_call, go_callW, go_meth, go_noPart, go_part, go_sl, go_get, go_retN, go_lc, go_dc, go_iter, go_enum, go_rng, go_rng1, go_rng2, go_rng3, go_disp, go_pnil, go_pcons, go_bdT, go_bdF, go_ok, go_nx, go_rt, go_addI, go_addS, go_addT, go_addL, go_subI, go_mulI, go_mulL, go_modI, go_fdivI, go_powI, go_ltI, go_leI, go_gtI, go_geI, go_eqI, go_eqS, go_neI, go_neS, go_ixF, go_ixT, go_ixS, go_ixD, go_slT, go_slF, go_slR, go_slS, go_revF, go_revCF, go_revAT, go_revAL, List.getElem?_cons_zero, List.getElem?_cons_succ, List.set_cons_zero, List.set_cons_succ, List.length_cons, List.length_nil, D.int.injEq, D.bl.injEq, D.str.injEq, Option.some.injEq, exists_eq_left', go_listF, go_listT, go_tupleF, go_tupleT, go_lenF, go_lenT, go_lenS, go_isiS, go_isiI, go_intI, go_intB, go_maxI, it_lst, it_tupD, it_strD, en_lst, en_tup, fr_gN, wipeD, go_inTab, go_notInTab, go_tab, go_lc2, go_par2, go_par3]
  refine ⟨_, star_ok s _ _ _ _ h3, ?_⟩
  rw [go_seq, go_set]
  simp only [go_bin, go_un, go_var, go_c, go_test, go_andT, go_orT, go_notT, go_yes, go_andV, go_if, go_nil, go_cons, go_tup, go_lst, go_lstC, go_cb, go_call, go_callW, go_meth, go_noPart, go_part, go_sl, go_get, go_retN, go_lc, go_dc, go_iter, go_enum, go_rng, go_rng1, go_rng2, go_rng3, go_disp, go_pnil, go_pcons, go_bdT, go_bdF, go_ok, go_nx, go_rt, go_addI, go_addS, go_addT, go_addL, go_subI, go_mulI, go_mulL, go_modI, go_fdivI, go_powI, go_ltI, go_leI, go_gtI, go_geI, go_eqI, go_eqS, go_neI, go_neS, go_ixF, go_ixT, go_ixS, go_ixD, go_slT, go_slF, go_slR, go_slS, go_revF, go_revCF, go_revAT, go_revAL, List.getElem?_cons_zero, List.getElem?_cons_succ, List.set_cons_zero, List.set_cons_succ, List.length_cons, List.length_nil, D.int.injEq, D.bl.injEq, D.str.injEq, Option.some.injEq, exists_eq_left', go_listF, go_listT, go_tupleF, go_tupleT, go_lenF, go_lenT, go_lenS, go_isiS, go_isiI, go_intI, go_intB, go_maxI, it_lst, it_tupD, it_strD, en_lst, en_tup, fr_gN, wipeD, go_inTab, go_notInTab, go_tab, go_lc2, go_par2, go_par3, ft]
  rw [go_seq, go_ifS]
  simp only [go_bin, go_un, go_var, go_c, go_test, go_andT, go_orT, go_notT, go_yes, go_andV, go_if, go_nil, go_cons, go_tup, go_lst, go_lstC, go_cb, go_call, go_callW, go_meth, go_noPart, go_part, go_sl, go_get, go_retN, go_lc, go_dc, go_iter, go_enum, go_rng, go_rng1, go_rng2, go_rng3, go_disp, go_pnil, go_pcons, go_bdT, go_bdF, go_ok, go_nx, go_rt, go_addI, go_addS, go_addT, go_addL, go_subI, go_mulI, go_mulL, go_modI, go_fdivI, go_powI, go_ltI, go_leI, go_gtI, go_geI, go_eqI, go_eqS, go_neI, go_neS, go_ixF, go_ixT, go_ixS, go_ixD, go_slT, go_slF, go_slR, go_slS, go_revF, go_revCF, go_revAT, go_revAL, List.getElem?_cons_zero, List.getElem?_cons_succ, List.set_cons_zero, List.set_cons_succ, List.length_cons, List.length_nil, D.int.injEq, D.bl.injEq, D.str.injEq, Option.some.injEq, exists_eq_left', go_listF, go_listT, go_tupleF, go_tupleT, go_lenF, go_lenT, go_lenS, go_isiS, go_isiI, go_intI, go_intB, go_maxI, it_lst, it_tupD, it_strD, en_lst, en_tup, fr_gN, wipeD, go_inTab, go_notInTab, go_tab, go_lc2, go_par2, go_par3]
  refine ⟨trivial, is_name_ok h.nm ?_⟩
  simp only [go_bin, go_un, go_var, go_c, go_test, go_andT, go_orT, go_notT, go_yes, go_andV, go_if, go_nil, go_cons, go_tup, go_lst, go_lstC, go_cb, go_call, go_callW, go_meth, go_noPart, go_part, go_sl, go_get, go_retN, go_lc, go_dc, go_iter, go_enum, go_rng, go_rng1, go_rng2, go_rng3, go_disp, go_pnil, go_pcons, go_bdT, go_bdF, go_ok, go_nx, go_rt, go_addI, go_addS, go_addT, go_addL, go_subI, go_mulI, go_mulL, go_modI, go_fdivI, go_powI, go_ltI, go_leI, go_gtI, go_geI, go_eqI, go_eqS, go_neI, go_neS, go_ixF, go_ixT, go_ixS, go_ixD, go_slT, go_slF, go_slR, go_slS, go_revF, go_revCF, go_revAT, go_revAL, List.getElem?_cons_zero, List.getElem?_cons_succ, List.set_cons_zero, List.set_cons_succ, List.length_cons, List.length_nil, D.int.injEq, D.bl.injEq, D.str.injEq, Option.some.injEq, exists_eq_left', go_listF, go_listT, go_tupleF, go_tupleT, go_lenF, go_lenT, go_lenS, go_isiS, go_isiI, go_intI, go_intB, go_maxI, it_lst, it_tupD, it_strD, en_lst, en_tup, fr_gN, wipeD, go_inTab, go_notInTab, go_tab, go_lc2, go_par2, go_par3, go_in, in_dicC hn, val_kn_none hs, Bool.not_true, Bool.false_eq_true, if_false, Option.isSome_none]
  have e4 : ((⟨z.toArray⟩ : Str).length : Nat) = z.length := rfl
  rw [e4]
  refine ⟨decide_eq_true (by omega), ?_⟩
  rw [if_neg (by simp [hlen])]
  rw [go_next, go_seq, go_ifS]
  simp only [go_bin, go_un, go_var, go_c, go_test, go_andT, go_orT, go_notT, go_yes, go_andV, go_if, go_nil, go_cons, go_tup, go_lst, go_lstC, go_cb, go_call, go_callW, go_meth, go_noPart, go_part, go_sl, go_get, go_retN, go_lc, go_dc, go_iter, go_enum, go_rng, go_rng1, go_rng2, go_rng3, go_disp, go_pnil, go_pcons, go_bdT, go_bdF, go_ok, go_nx, go_rt, go_addI, go_addS, go_addT, go_addL, go_subI, go_mulI, go_mulL, go_modI, go_fdivI, go_powI, go_ltI, go_leI, go_gtI, go_geI, go_eqI, go_eqS, go_neI, go_neS, go_ixF, go_ixT, go_ixS, go_ixD, go_slT, go_slF, go_slR, go_slS, go_revF, go_revCF, go_revAT, go_revAL, List.getElem?_cons_zero, List.getElem?_cons_succ, List.set_cons_zero, List.set_cons_succ, List.length_cons, List.length_nil, D.int.injEq, D.bl.injEq, D.str.injEq, Option.some.injEq, exists_eq_left', go_listF, go_listT, go_tupleF, go_tupleT, go_lenF, go_lenT, go_lenS, go_isiS, go_isiI, go_intI, go_intB, go_maxI, it_lst, it_tupD, it_strD, en_lst, en_tup, fr_gN, wipeD, go_inTab, go_notInTab, go_tab, go_lc2, go_par2, go_par3]
  have it1 : itemsOf (.str ⟨z.toArray⟩) M = some ⟨z.map fun c => .str ⟨#[c]⟩, fun _ => True⟩ := by
    rw [it_strD]
  rw [go_zipS it1 it_lst]
  have hl : (z.map fun c => D.str ⟨#[c]⟩).length = (s.os.map od).length := by rw [List.length_map, List.length_map, hlen]
  refine ⟨hl, ?_⟩
  refine go_compT ⟨trivial, trivial⟩ _ (by rw [pair_len hl, List.length_map]; omega) (fun d hd => ?_) ?_
  · obtain ⟨c, o, rfl, ho⟩ := pair_mem hit d hd
    refine ⟨_, rfl, ?_⟩
    simp only [go_bin, go_un, go_var, go_c, go_test, go_andT, go_orT, go_notT, go_yes, go_andV, go_if, go_nil, go_cons, go_tup, go_lst, go_lstC, go_cb, go_call, go_callW, go_meth, go_noPart, go_part, go_sl, go_get, go_retN, go_lc, go_dc, go_iter, go_enum, go_rng, go_rng1, go_rng2, go_rng3, go_disp, go_pnil, go_pcons, go_bdT, go_bdF, go_ok, go_nx, go_rt, go_addI, go_addS, go_addT, go_addL, go_subI, go_mulI, go_mulL, go_modI, go_fdivI, go_powI, go_ltI, go_leI, go_gtI, go_geI, go_eqI, go_eqS, go_neI, go_neS, go_ixF, go_ixT, go_ixS, go_ixD, go_slT, go_slF, go_slR, go_slS, go_revF, go_revCF, go_revAT, go_revAL, List.getElem?_cons_zero, List.getElem?_cons_succ, List.set_cons_zero, List.set_cons_succ, List.length_cons, List.length_nil, D.int.injEq, D.bl.injEq, D.str.injEq, Option.some.injEq, exists_eq_left', go_listF, go_listT, go_tupleF, go_tupleT, go_lenF, go_lenT, go_lenS, go_isiS, go_isiI, go_intI, go_intB, go_maxI, it_lst, it_tupD, it_strD, en_lst, en_tup, fr_gN, wipeD, go_inTab, go_notInTab, go_tab, go_lc2, go_par2, go_par3]
    exact ⟨trivial, is_thing_ok hn ok.nd ho ⟨rfl, rfl⟩⟩
  rw [go_allT]
  refine ⟨true, rfl, ?_⟩
  rw [if_neg (by decide), go_next, go_seq, go_set]
  simp only [go_bin, go_un, go_var, go_c, go_test, go_andT, go_orT, go_notT, go_yes, go_andV, go_if, go_nil, go_cons, go_tup, go_lst, go_lstC, go_cb, go_call, go_callW, go_meth, go_noPart, go_part, go_sl, go_get, go_retN, go_lc, go_dc, go_iter, go_enum, go_rng, go_rng1, go_rng2, go_rng3, go_disp, go_pnil, go_pcons, go_bdT, go_bdF, go_ok, go_nx, go_rt, go_addI, go_addS, go_addT, go_addL, go_subI, go_mulI, go_mulL, go_modI, go_fdivI, go_powI, go_ltI, go_leI, go_gtI, go_geI, go_eqI, go_eqS, go_neI, go_neS, go_ixF, go_ixT, go_ixS, go_ixD, go_slT, go_slF, go_slR, go_slS, go_revF, go_revCF, go_revAT, go_revAL, List.getElem?_cons_zero, List.getElem?_cons_succ, List.set_cons_zero, List.set_cons_succ, List.length_cons, List.length_nil, D.int.injEq, D.bl.injEq, D.str.injEq, Option.some.injEq, exists_eq_left', go_listF, go_listT, go_tupleF, go_tupleT, go_lenF, go_lenT, go_lenS, go_isiS, go_isiI, go_intI, go_intB, go_maxI, it_lst, it_tupD, it_strD, en_lst, en_tup, fr_gN, wipeD, go_inTab, go_notInTab, go_tab, go_lc2, go_par2, go_par3]
  refine ⟨trivial, names_in_ok h3 ?_⟩
  rw [go_ret]
  simp only [go_bin, go_un, go_var, go_c, go_test, go_andT, go_orT, go_notT, go_yes, go_andV, go_if, go_nil, go_cons, go_tup, go_lst, go_lstC, go_cb, go_call, go_callW, go_meth, go_noPart, go_part, go_sl, go_get, go_retN, go_lc, go_dc, go_iter, go_enum, go_rng, go_rng1, go_rng2, go_rng3, go_disp, go_pnil, go_pcons, go_bdT, go_bdF, go_ok, go_nx, go_rt, go_addI, go_addS, go_addT, go_addL, go_subI, go_mulI, go_mulL, go_modI, go_fdivI, go_powI, go_ltI, go_leI, go_gtI, go_geI, go_eqI, go_eqS, go_neI, go_neS, go_ixF, go_ixT, go_ixS, go_ixD, go_slT, go_slF, go_slR, go_slS, go_revF, go_revCF, go_revAT, go_revAL, List.getElem?_cons_zero, List.getElem?_cons_succ, List.set_cons_zero, List.set_cons_succ, List.length_cons, List.length_nil, D.int.injEq, D.bl.injEq, D.str.injEq, Option.some.injEq, exists_eq_left', go_listF, go_listT, go_tupleF, go_tupleT, go_lenF, go_lenT, go_lenS, go_isiS, go_isiI, go_intI, go_intB, go_maxI, it_lst, it_tupD, it_strD, en_lst, en_tup, fr_gN, wipeD, go_inTab, go_notInTab, go_tab, go_lc2, go_par2, go_par3, go_lenSc]
  have hsl := strsO_le s.os
  refine set_comp trivial _ h.nd (by omega) (by show 9 < 10; decide) ?_
  rw [List.length_map, List.length_map]
  refine ⟨by omega, ?_⟩
  rw [decide_eq_true rfl, if_pos rfl]
  exact ⟨trivial, is_met_ok hn ok h (go_fin_same (frz_low rfl) q)⟩
end Sk

namespace Sk
open PySem PySem.Spec PyProof.Rows L2 Ly
/-! ### texts of steps -/
def oS : O → Str
  | .s x => x
  | .i k => Str.ofString (toString k)
def wsS (s : Stp) : List Str := s.w :: s.n :: s.os.map oS
def txt (s : Stp) : Str := Txt.join " " (wsS s)
def txts (ss : List Stp) : Str := Txt.join "\n" (ss.map txt)
/-- a word or a figure -/
def Wok (x : Str) : Prop := Az 1 8 x ∨ x = "0" ∨ x = "1" ∨ x = "2" ∨ x = "3"
theorem Wok.len {x : Str} (h : Wok x) : x.length ≤ 8 := by
  rcases h with h | rfl | rfl | rfl | rfl
  · exact h.hi
  all_goals decide +kernel
theorem Wok.free {x : Str} (h : Wok x) : 32 ∉ TL.tl x ∧ 10 ∉ TL.tl x := by
  rcases h with h | rfl | rfl | rfl | rfl
  · exact ⟨fun z => by have := h.az _ z; omega, fun z => by have := h.az _ z; omega⟩
  all_goals decide +kernel
theorem word_az : ∀ p ∈ formL, Az 1 8 p.1 := by decide +kernel
theorem item_ok {ss : List Stp} (hn : ∀ s ∈ ss, Az 1 8 s.n) {c : Nat} {o : O} (h : ItemOk ss c o) : Wok (oS o) := by
  cases h with
  | n h1 h2 =>
    rename_i k
    have : k = 1 ∨ k = 2 ∨ k = 3 := by omega
    rcases this with rfl | rfl | rfl
    · exact .inr (.inr (.inl rfl))
    · exact .inr (.inr (.inr (.inl rfl)))
    · exact .inr (.inr (.inr (.inr rfl)))
  | k h1 h2 =>
    rename_i k
    have : k = 0 ∨ k = 1 := by omega
    rcases this with rfl | rfl
    · exact .inr (.inl rfl)
    · exact .inr (.inr (.inl rfl))
  | s t => exact .inl (hn _ t)
/-- a step that can be written -/
structure WrOk (s : Stp) : Prop where
  ws : ∀ x ∈ wsS s, Wok x
  le : s.os.length ≤ 3
  is : ∀ k, O.i k ∈ s.os → 0 ≤ k ∧ k ≤ 3
  az : ∀ x, O.s x ∈ s.os → Az 1 8 x
  w : Az 1 8 s.w
  n : Az 1 8 s.n
theorem fit_az {ss : List Stp} (ok : SkOk ss) : ∀ s ∈ ss, Az 1 8 s.n := fun s hs => (ok.mem hs).nm
theorem Fit.wr {ss : List Stp} {s : Stp} (ok : SkOk ss) (h : Fit ss s) : WrOk s := by
  obtain ⟨z, hz, hit⟩ := h.form
  refine ⟨fun x hx => ?_, os_le h, fun k hk => ?_, fun x hx => ?_, word_az _ hz, h.nm⟩
  · rcases List.mem_cons.mp hx with rfl | hx
    · exact .inl (word_az _ hz)
    rcases List.mem_cons.mp hx with rfl | hx
    · exact .inl h.nm
    obtain ⟨o, ho, rfl⟩ := List.mem_map.mp hx
    obtain ⟨c, _, hc⟩ := hit.right o ho
    exact item_ok (fit_az ok) hc
  · obtain ⟨c, _, hc⟩ := hit.right _ hk
    cases hc <;> omega
  · obtain ⟨c, _, hc⟩ := hit.right _ hx
    cases hc with
    | s t => exact fit_az ok _ t
theorem go_strS {M : Mem} {x : Str} {Q : D → Mem → Prop} : Go (fStr [.str x] M) Q = Q (.str x) M := id rfl
theorem go_strI {M : Mem} {k : Int} {Q : D → Mem → Prop} (h0 : 0 ≤ k) (h1 : k ≤ 3) : Go (fStr [.int k] M) Q = Q (.str (oS (.i k))) M := by
  have : k = 0 ∨ k = 1 ∨ k = 2 ∨ k = 3 := by omega
  rcases this with rfl | rfl | rfl | rfl <;> rfl
theorem strsOf_map : ∀ xs : List Str, strsOf (xs.map D.str) = some xs
  | [] => rfl
  | x :: xs => by
    show (strsOf (xs.map D.str)).map (fun ys => x :: ys) = _
    rw [strsOf_map xs]
    rfl
theorem go_joinL {M : Mem} {a : Str} {xs : List Str} {Q : D → Mem → Prop} (h : (xs.map (·.length)).sum + xs.length * a.length ≤ 100000) : Go (fJoin (.str a) [.lst (xs.map D.str)] M) Q = Q (.str (Txt.join a xs)) M := by
  have e : fJoin (.str a) [.lst (xs.map D.str)] M = .ok (.str (Txt.join a xs)) M := by
    have e1 : (seqOf (.lst (xs.map D.str)) M).bind strsOf = some xs := strsOf_map xs
    unfold fJoin
    simp only [e1]
    rw [if_pos h]
  rw [e]
  rfl
theorem sum_le {n : Nat} : ∀ {xs : List Str}, (∀ x ∈ xs, x.length ≤ n) → (xs.map (·.length)).sum ≤ xs.length * n
  | [], _ => Nat.zero_le _
  | x :: xs, h => by
    have h1 := h x List.mem_cons_self
    have h2 := sum_le (xs := xs) fun y hy => h y (List.mem_cons_of_mem _ hy)
    rw [List.map_cons, List.sum_cons, List.length_cons, Nat.succ_mul]
    omega
theorem join_len (y : Str) : ∀ xs : List Str, (Str.join y xs).length ≤ (xs.map (·.length)).sum + xs.length * y.length
  | [] => Nat.zero_le _
  | [x] => by
    show x.length ≤ _
    simp
  | x :: z :: r => by
    have ih := join_len y (z :: r)
    have e : (Str.join y (x :: z :: r)).length = x.length + y.length + (Str.join y (z :: r)).length := by
      show ((x ++ y ++ Str.join y (z :: r)).cps).size = _
      show ((x.cps ++ y.cps) ++ (Str.join y (z :: r)).cps).size = _
      rw [Array.size_append, Array.size_append]
      rfl
    rw [e, List.map_cons, List.sum_cons, List.length_cons, Nat.succ_mul]
    omega
theorem ws_len (s : Stp) (h : WrOk s) : (wsS s).length ≤ 5 := by
  show ((s.os.map oS).length + 1 + 1) ≤ 5
  rw [List.length_map]
  have := h.le
  omega
theorem ws_sum (s : Stp) (h : WrOk s) : ((wsS s).map (·.length)).sum + (wsS s).length * (" " : Str).length ≤ 45 := by
  have h1 := sum_le (n := 8) fun x hx => (h.ws x hx).len
  have h2 := ws_len s h
  rw [show (" " : Str).length = 1 from rfl]
  omega
theorem txt_len (s : Stp) (h : WrOk s) : (txt s).length ≤ 45 := by
  unfold txt
  rw [TL.join_eq]
  exact Nat.le_trans (join_len _ _) (ws_sum s h)
theorem show_comp {M : Mem} {s : Stp} {i : Nat} {el : ME} {chk : Mem → Prop} {env : Ly.Env} {Q : List D → Mem → Prop} (h : WrOk s) (hc : chk M) (he : ∀ d, el (env.set i (some d)) M = fStr [d] M) (q : Q ((wsS s).map D.str) M) : Go (compL (gN i) mYes el chk env (.str s.w :: .str s.n :: s.os.map od) [] M) Q := by
  have e : (.str s.w :: .str s.n :: s.os.map od : List D) = (.s s.w :: .s s.n :: s.os : List O).map od := rfl
  have e2 : (wsS s).map D.str = (.s s.w :: .s s.n :: s.os : List O).map fun o => D.str (oS o) := by
    show D.str s.w :: D.str s.n :: (s.os.map oS).map D.str = D.str s.w :: D.str s.n :: s.os.map _
    rw [List.map_map]
    rfl
  have hl := h.le
  rw [e]
  refine go_comp (fun rem acc M' => M' = M ∧ ∃ pre post : List O, (.s s.w :: .s s.n :: s.os : List O) = pre ++ post ∧ rem = post.map od ∧ acc = pre.map fun o => D.str (oS o)) ?_ ?_ _ _ _ ⟨rfl, [], _, rfl, rfl, rfl⟩
  · rintro d rem acc M' ⟨rfl, pre, post, ep, er, rfl⟩
    cases post with
    | nil => cases er
    | cons o post =>
      cases er
      refine ⟨hc, _, rfl, ?_⟩
      have ho : o ∈ (.s s.w :: .s s.n :: s.os : List O) := by rw [ep]; simp
      have len : pre.length ≤ 5 := by
        have : (O.s s.w :: O.s s.n :: s.os).length = pre.length + (post.length + 1) := by rw [ep, List.length_append, List.length_cons]
        rw [List.length_cons, List.length_cons] at this
        omega
      rw [go_yes, if_pos rfl, he]
      have fin : M' = M' ∧ ∃ pre' post', (O.s s.w :: O.s s.n :: s.os) = pre' ++ post' ∧ post.map od = post'.map od ∧ (pre.map fun o => D.str (oS o)) ++ [D.str (oS o)] = pre'.map fun o => D.str (oS o) :=
        ⟨rfl, pre ++ [o], post, by rw [ep]; simp, rfl, by rw [List.map_append]; rfl⟩
      cases o with
      | s x =>
        refine ⟨by rw [List.length_map]; omega, fin⟩
      | i k =>
        have hk : 0 ≤ k ∧ k ≤ 3 := h.is k (by
          rcases List.mem_cons.mp ho with z | ho
          · cases z
          rcases List.mem_cons.mp ho with z | ho
          · cases z
          exact ho)
        show Go (fStr [.int k] M') _
        rw [go_strI hk.1 hk.2]
        exact ⟨by rw [List.length_map]; omega, fin⟩
  · rintro acc M' ⟨rfl, pre, post, ep, er, rfl⟩
    have : post = [] := by
      cases post with
      | nil => rfl
      | cons s post => cases er
    subst this
    rw [List.append_nil] at ep
    subst ep
    rw [← e2]
    exact ⟨hc, q⟩
theorem show_step_ok {M : Mem} {s : Stp} {Q : D → Mem → Prop} (h : WrOk s) (q : Q (.str (txt s)) M) : Go (f_show_step [stD s] M) Q := by
  rw [f_show_step, go_callD, show startD 2 [stD s] = [some (stD s), none] from rfl, m_show_step]
  rw [go_ret]
  simp only [go_bin, go_un, go_var, go_c, go_test, go_andT, go_orT, go_notT, go_yes, go_andV, go_if, go_nil, go_cons, go_tup, go_lst, go_lstC, go_cb, go_call, go_callW, go_meth, go_noPart, go_part, go_sl, go_get, go_retN, go_lc, go_dc, go_iter, go_enum, go_rng, go_rng1, go_rng2, go_rng3, go_disp, go_pnil, go_pcons, go_bdT, go_bdF, go_ok, go_nx, go_rt, go_addI, go_addS, go_addT, go_addL, go_subI, go_mulI, go_mulL, go_modI, go_fdivI, go_powI, go_ltI, go_leI, go_gtI, go_geI, go_eqI, go_eqS, go_neI, go_neS, go_ixF, go_ixT, go_ixS, go_ixD, go_slT, go_slF, go_slR, go_slS, go_revF, go_revCF, go_revAT, go_revAL, List.getElem?_cons_zero, List.getElem?_cons_succ, List.set_cons_zero, List.set_cons_succ, List.length_cons, List.length_nil, D.int.injEq, D.bl.injEq, D.str.injEq, Option.some.injEq, exists_eq_left', go_listF, go_listT, go_tupleF, go_tupleT, go_lenF, go_lenT, go_lenS, go_isiS, go_isiI, go_intI, go_intB, go_maxI, it_lst, it_tupD, it_strD, en_lst, en_tup, fr_gN, wipeD, go_inTab, go_notInTab, go_tab, go_lc2, go_par2, go_par3, stD]
  refine ⟨rfl, show_comp h trivial (fun d => rfl) ?_⟩
  have := ws_sum s h
  rw [go_joinL (by omega)]
  exact go_fin_same (frz_low rfl) q
theorem txts_sum {ss : List Stp} (h : ∀ s ∈ ss, WrOk s) (hl : ss.length ≤ 16) : ((ss.map txt).map (·.length)).sum + (ss.map txt).length * ("\n" : Str).length ≤ 1000 := by
  have h1 := sum_le (n := 45) (xs := ss.map txt) fun x hx => by
    obtain ⟨s, hs, rfl⟩ := List.mem_map.mp hx
    exact txt_len s (h s hs)
  rw [show ("\n" : Str).length = 1 from rfl]
  rw [List.length_map] at h1 ⊢
  omega
theorem comp_txt {M : Mem} {ss : List Stp} {i : Nat} {el : ME} {chk : Mem → Prop} {env : Ly.Env} {Q : List D → Mem → Prop} (hl : ss.length ≤ 16) (hc : chk M) (he : ∀ s ∈ ss, Go (el (env.set i (some (stD s))) M) fun y M1 => y = .str (txt s) ∧ M1 = M) (q : Q ((ss.map txt).map D.str) M) : Go (compL (gN i) mYes el chk env (ss.map stD) [] M) Q := by
  refine go_comp (fun rem acc M' => M' = M ∧ ∃ pre post, ss = pre ++ post ∧ rem = post.map stD ∧ acc = (pre.map txt).map D.str) ?_ ?_ _ _ _ ⟨rfl, [], ss, rfl, rfl, rfl⟩
  · rintro d rem acc M' ⟨rfl, pre, post, e, er, rfl⟩
    cases post with
    | nil => cases er
    | cons s post =>
      cases er
      have hs : s ∈ ss := by rw [e]; simp
      refine ⟨hc, _, rfl, ?_⟩
      rw [go_yes, if_pos rfl]
      refine (he s hs).imp fun y M1 ⟨h1, h2⟩ => ?_
      subst h1 h2
      refine ⟨?_, rfl, pre ++ [s], post, by rw [e]; simp, rfl, by rw [List.map_append, List.map_append]; rfl⟩
      rw [List.length_map, List.length_map]
      have : ss.length = pre.length + (post.length + 1) := by rw [e, List.length_append, List.length_cons]
      omega
  · rintro acc M' ⟨rfl, pre, post, e, er, rfl⟩
    have : post = [] := by
      cases post with
      | nil => rfl
      | cons s post => cases er
    subst this
    rw [List.append_nil] at e
    subst e
    exact ⟨hc, q⟩
theorem show_sketch_ok {M : Mem} {ss : List Stp} {Q : D → Mem → Prop} (h : ∀ s ∈ ss, WrOk s) (hl : ss.length ≤ 16) (q : Q (.str (txts ss)) M) : Go (f_show_sketch [.tup (ss.map stD)] M) Q := by
  rw [f_show_sketch, go_callD, show startD 2 [D.tup (ss.map stD)] = [some (.tup (ss.map stD)), none] from rfl, m_show_sketch]
  rw [go_ret]
  simp only [go_bin, go_un, go_var, go_c, go_test, go_andT, go_orT, go_notT, go_yes, go_andV, go_if, go_nil, go_cons, go_tup, go_lst, go_lstC, go_cb, go_call, go_callW, go_meth, go_noPart, go_part, go_sl, go_get, go_retN, go_lc, go_dc, go_iter, go_enum, go_rng, go_rng1, go_rng2, go_rng3, go_disp, go_pnil, go_pcons, go_bdT, go_bdF, go_ok, go_nx, go_rt, go_addI, go_addS, go_addT, go_addL, go_subI, go_mulI, go_mulL, go_modI, go_fdivI, go_powI, go_ltI, go_leI, go_gtI, go_geI, go_eqI, go_eqS, go_neI, go_neS, go_ixF, go_ixT, go_ixS, go_ixD, go_slT, go_slF, go_slR, go_slS, go_revF, go_revCF, go_revAT, go_revAL, List.getElem?_cons_zero, List.getElem?_cons_succ, List.set_cons_zero, List.set_cons_succ, List.length_cons, List.length_nil, D.int.injEq, D.bl.injEq, D.str.injEq, Option.some.injEq, exists_eq_left', go_listF, go_listT, go_tupleF, go_tupleT, go_lenF, go_lenT, go_lenS, go_isiS, go_isiI, go_intI, go_intB, go_maxI, it_lst, it_tupD, it_strD, en_lst, en_tup, fr_gN, wipeD, go_inTab, go_notInTab, go_tab, go_lc2, go_par2, go_par3]
  refine ⟨rfl, comp_txt hl trivial (fun s hs => ?_) ?_⟩
  · simp only [go_bin, go_un, go_var, go_c, go_test, go_andT, go_orT, go_notT, go_yes, go_andV, go_if, go_nil, go_cons, go_tup, go_lst, go_lstC, go_cb, go_call, go_callW, go_meth, go_noPart, go_part, go_sl, go_get, go_retN, go_lc, go_dc, go_iter, go_enum, go_rng, go_rng1, go_rng2, go_rng3, go_disp, go_pnil, go_pcons, go_bdT, go_bdF, go_ok, go_nx, go_rt, go_addI, go_addS, go_addT, go_addL, go_subI, go_mulI, go_mulL, go_modI, go_fdivI, go_powI, go_ltI, go_leI, go_gtI, go_geI, go_eqI, go_eqS, go_neI, go_neS, go_ixF, go_ixT, go_ixS, go_ixD, go_slT, go_slF, go_slR, go_slS, go_revF, go_revCF, go_revAT, go_revAL, List.getElem?_cons_zero, List.getElem?_cons_succ, List.set_cons_zero, List.set_cons_succ, List.length_cons, List.length_nil, D.int.injEq, D.bl.injEq, D.str.injEq, Option.some.injEq, exists_eq_left', go_listF, go_listT, go_tupleF, go_tupleT, go_lenF, go_lenT, go_lenS, go_isiS, go_isiI, go_intI, go_intB, go_maxI, it_lst, it_tupD, it_strD, en_lst, en_tup, fr_gN, wipeD, go_inTab, go_notInTab, go_tab, go_lc2, go_par2, go_par3]
    exact ⟨trivial, show_step_ok (h s hs) ⟨rfl, rfl⟩⟩
  · have := txts_sum h hl
    rw [go_joinL (by omega)]
    exact go_fin_same (frz_low rfl) q
end Sk

namespace Sk
open PySem PySem.Spec PyProof.Rows L2 Ly
/-! ### texts read -/
theorem figs_list : (("0123456789" : Str)).cps.toList = [48, 49, 50, 51, 52, 53, 54, 55, 56, 57] := by decide +kernel
theorem in_figs_no {M : Mem} {x : Str} (h : Az 1 1 x) : inM M (.str x) (.str "0123456789") = some false := by
  show some (strIn x "0123456789") = some false
  congr 1
  have hs : x.cps.size = 1 := Nat.le_antisymm h.hi h.lo
  have hl : x.cps.toList.length = 1 := by rw [Array.length_toList]; exact hs
  obtain ⟨c, hc⟩ := List.length_eq_one_iff.mp hl
  have az := h.az c (by rw [hc]; simp)
  unfold strIn
  rw [hc]
  show decide (c ∈ (("0123456789" : Str)).cps.toList) = false
  rw [figs_list]
  refine decide_eq_false fun z => ?_
  simp only [List.mem_cons, List.not_mem_nil, or_false] at z
  omega
theorem go_intS {M : Mem} {x : Str} {n : Int} {Q : D → Mem → Prop} (h : PySem.intText? x = some n) (hl : x.length ≤ 640) : Go (fIntS [.str x] M) Q = Q (.int n) M := by
  have e : fIntS [.str x] M = .ok (.int n) M := by
    unfold fIntS
    simp only [h]
    rw [if_pos hl]
  rw [e]
  rfl
theorem thing_in_w {M : Mem} {x : Str} {Q : D → Mem → Prop} (h : Az 1 8 x) (q : Q (.str x) M) : Go (f_thing_in [.str x] M) Q := by
  rw [f_thing_in, go_callD, show startD 1 [D.str x] = [some (.str x)] from rfl, m_thing_in]
  rw [go_ret]
  have h1 := h.lo
  have h2 := h.hi
  have hs : (x.length : Nat) = x.cps.size := rfl
  simp only [go_bin, go_un, go_var, go_c, go_test, go_andT, go_orT, go_notT, go_yes, go_andV, go_if, go_nil, go_cons, go_tup, go_lst, go_lstC, go_cb, go_call, go_callW, go_meth, go_noPart, go_part, go_sl, go_get, go_retN, go_lc, go_dc, go_iter, go_enum, go_rng, go_rng1, go_rng2, go_rng3, go_disp, go_pnil, go_pcons, go_bdT, go_bdF, go_ok, go_nx, go_rt, go_addI, go_addS, go_addT, go_addL, go_subI, go_mulI, go_mulL, go_modI, go_fdivI, go_powI, go_ltI, go_leI, go_gtI, go_geI, go_eqI, go_eqS, go_neI, go_neS, go_ixF, go_ixT, go_ixS, go_ixD, go_slT, go_slF, go_slR, go_slS, go_revF, go_revCF, go_revAT, go_revAL, List.getElem?_cons_zero, List.getElem?_cons_succ, List.set_cons_zero, List.set_cons_succ, List.length_cons, List.length_nil, D.int.injEq, D.bl.injEq, D.str.injEq, Option.some.injEq, exists_eq_left', go_listF, go_listT, go_tupleF, go_tupleT, go_lenF, go_lenT, go_lenS, go_isiS, go_isiI, go_intI, go_intB, go_maxI, it_lst, it_tupD, it_strD, en_lst, en_tup, fr_gN, wipeD, go_inTab, go_notInTab, go_tab, go_lc2, go_par2, go_par3]
  refine ⟨decide_eq_true (by omega), ?_⟩
  split
  · next hc =>
    have : ((x.length : Nat) : Int) = 1 := of_decide_eq_true hc
    simp only [go_in, in_figs_no (M := M) ⟨h.lo, by omega, h.az⟩, go_bin, go_un, go_var, go_c, go_test, go_andT, go_orT, go_notT, go_yes, go_andV, go_if, go_nil, go_cons, go_tup, go_lst, go_lstC, go_cb, go_call, go_callW, go_meth, go_noPart, go_part, go_sl, go_get, go_retN, go_lc, go_dc, go_iter, go_enum, go_rng, go_rng1, go_rng2, go_rng3, go_disp, go_pnil, go_pcons, go_bdT, go_bdF, go_ok, go_nx, go_rt, go_addI, go_addS, go_addT, go_addL, go_subI, go_mulI, go_mulL, go_modI, go_fdivI, go_powI, go_ltI, go_leI, go_gtI, go_geI, go_eqI, go_eqS, go_neI, go_neS, go_ixF, go_ixT, go_ixS, go_ixD, go_slT, go_slF, go_slR, go_slS, go_revF, go_revCF, go_revAT, go_revAL, List.getElem?_cons_zero, List.getElem?_cons_succ, List.set_cons_zero, List.set_cons_succ, List.length_cons, List.length_nil, D.int.injEq, D.bl.injEq, D.str.injEq, Option.some.injEq, exists_eq_left', go_listF, go_listT, go_tupleF, go_tupleT, go_lenF, go_lenT, go_lenS, go_isiS, go_isiI, go_intI, go_intB, go_maxI, it_lst, it_tupD, it_strD, en_lst, en_tup, fr_gN, wipeD, go_inTab, go_notInTab, go_tab, go_lc2, go_par2, go_par3]
    rw [if_neg (by decide)]
    exact go_fin_same (frz_low rfl) q
  · rw [if_neg (by decide)]
    exact go_fin_same (frz_low rfl) q
theorem fig_ok {k : Int} (h0 : 0 ≤ k) (h1 : k ≤ 3) : (oS (.i k)).length = 1 ∧ strIn (oS (.i k)) "0123456789" = true ∧ PySem.intText? (oS (.i k)) = some k := by
  have : k = 0 ∨ k = 1 ∨ k = 2 ∨ k = 3 := by omega
  rcases this with rfl | rfl | rfl | rfl <;> refine ⟨?_, ?_, ?_⟩ <;> decide +kernel
theorem thing_in_i {M : Mem} {k : Int} {Q : D → Mem → Prop} (h0 : 0 ≤ k) (h1 : k ≤ 3) (q : Q (.int k) M) : Go (f_thing_in [.str (oS (.i k))] M) Q := by
  obtain ⟨e1, e2, e3⟩ := fig_ok h0 h1
  rw [f_thing_in, go_callD, show startD 1 [D.str (oS (.i k))] = [some (.str (oS (.i k)))] from rfl, m_thing_in]
  rw [go_ret]
  simp only [go_bin, go_un, go_var, go_c, go_test, go_andT, go_orT, go_notT, go_yes, go_andV, go_if, go_nil, go_cons, go_tup, go_lst, go_lstC, go_cb, go_call, go_callW, go_meth, go_noPart, go_part, go_sl, go_get, go_retN, go_lc, go_dc, go_iter, go_enum, go_rng, go_rng1, go_rng2, go_rng3, go_disp, go_pnil, go_pcons, go_bdT, go_bdF, go_ok, go_nx, go_rt, go_addI, go_addS, go_addT, go_addL, go_subI, go_mulI, go_mulL, go_modI, go_fdivI, go_powI, go_ltI, go_leI, go_gtI, go_geI, go_eqI, go_eqS, go_neI, go_neS, go_ixF, go_ixT, go_ixS, go_ixD, go_slT, go_slF, go_slR, go_slS, go_revF, go_revCF, go_revAT, go_revAL, List.getElem?_cons_zero, List.getElem?_cons_succ, List.set_cons_zero, List.set_cons_succ, List.length_cons, List.length_nil, D.int.injEq, D.bl.injEq, D.str.injEq, Option.some.injEq, exists_eq_left', go_listF, go_listT, go_tupleF, go_tupleT, go_lenF, go_lenT, go_lenS, go_isiS, go_isiI, go_intI, go_intB, go_maxI, it_lst, it_tupD, it_strD, en_lst, en_tup, fr_gN, wipeD, go_inTab, go_notInTab, go_tab, go_lc2, go_par2, go_par3]
  rw [e1]
  refine ⟨by decide, ?_⟩
  rw [if_pos (by decide)]
  have e4 : inM M (.str (oS (.i k))) (.str "0123456789") = some true := congrArg some e2
  simp only [go_in, e4, go_bin, go_un, go_var, go_c, go_test, go_andT, go_orT, go_notT, go_yes, go_andV, go_if, go_nil, go_cons, go_tup, go_lst, go_lstC, go_cb, go_call, go_callW, go_meth, go_noPart, go_part, go_sl, go_get, go_retN, go_lc, go_dc, go_iter, go_enum, go_rng, go_rng1, go_rng2, go_rng3, go_disp, go_pnil, go_pcons, go_bdT, go_bdF, go_ok, go_nx, go_rt, go_addI, go_addS, go_addT, go_addL, go_subI, go_mulI, go_mulL, go_modI, go_fdivI, go_powI, go_ltI, go_leI, go_gtI, go_geI, go_eqI, go_eqS, go_neI, go_neS, go_ixF, go_ixT, go_ixS, go_ixD, go_slT, go_slF, go_slR, go_slS, go_revF, go_revCF, go_revAT, go_revAL, List.getElem?_cons_zero, List.getElem?_cons_succ, List.set_cons_zero, List.set_cons_succ, List.length_cons, List.length_nil, D.int.injEq, D.bl.injEq, D.str.injEq, Option.some.injEq, exists_eq_left', go_listF, go_listT, go_tupleF, go_tupleT, go_lenF, go_lenT, go_lenS, go_isiS, go_isiI, go_intI, go_intB, go_maxI, it_lst, it_tupD, it_strD, en_lst, en_tup, fr_gN, wipeD, go_inTab, go_notInTab, go_tab, go_lc2, go_par2, go_par3, if_true]
  rw [go_intS e3 (by rw [e1]; decide)]
  exact go_fin_same (frz_low rfl) q
theorem split_txt {s : Stp} (h : WrOk s) : Txt.split (txt s) " " = wsS s :=
  TL.split_join (s := 32) (S := []) rfl (by decide +kernel) (by unfold wsS; simp) fun p hp => (h.ws p hp).free.1
theorem mem_joinL {S : List Nat} {c : Nat} : ∀ {ps : List (List Nat)}, c ∈ TL.joinL S ps → c ∈ S ∨ ∃ p ∈ ps, c ∈ p
  | [], h => by cases h
  | [p], h => .inr ⟨p, List.mem_cons_self, h⟩
  | p :: q :: r, h => by
    have h : c ∈ p ++ (S ++ TL.joinL S (q :: r)) := h
    rcases List.mem_append.mp h with h | h
    · exact .inr ⟨p, List.mem_cons_self, h⟩
    rcases List.mem_append.mp h with h | h
    · exact .inl h
    rcases mem_joinL h with h | ⟨x, hx, h⟩
    · exact .inl h
    · exact .inr ⟨x, List.mem_cons_of_mem _ hx, h⟩
theorem txt_free {s : Stp} (h : WrOk s) : 10 ∉ TL.tl (txt s) := by
  unfold txt
  rw [TL.join_eq, TL.tl_join]
  intro z
  rcases mem_joinL z with z | ⟨p, hp, z⟩
  · revert z
    decide +kernel
  · obtain ⟨x, hx, rfl⟩ := List.mem_map.mp hp
    exact (h.ws x hx).free.2 z
theorem split_txts {ss : List Stp} (h : ∀ s ∈ ss, WrOk s) (ne : ss ≠ []) : Txt.split (txts ss) "\n" = ss.map txt :=
  TL.split_join (s := 10) (S := []) rfl (by decide +kernel) (fun z => ne (List.map_eq_nil_iff.mp z)) fun p hp => by
    obtain ⟨s, hs, rfl⟩ := List.mem_map.mp hp
    exact txt_free (h s hs)
theorem split_e1 : Txt.split "" "\n" = ([""] : List Str) := by decide +kernel
theorem split_e2 : Txt.split "" " " = ([""] : List Str) := by decide +kernel
theorem txts_ne {ss : List Stp} (h : ∀ s ∈ ss, WrOk s) (ne : ss ≠ []) : txts ss ≠ "" := by
  intro z
  have h1 := split_txts h ne
  rw [z, split_e1] at h1
  cases ss with
  | nil => exact ne rfl
  | cons s ss =>
    have h2 : ("" : Str) = txt s := (List.cons.inj h1).1
    have h3 := split_txt (h s List.mem_cons_self)
    rw [← h2, split_e2] at h3
    exact absurd (congrArg List.length h3) (by
      show ¬ 1 = (s.os.map oS).length + 1 + 1
      omega)
theorem go_split {M : Mem} {a b : Str} {Q : D → Mem → Prop} (h0 : b.length ≠ 0) (h : a.length ≤ 100000) : Go (fSplit (.str a) [.str b] M) Q = Q (.lst ((Txt.split a b).map D.str)) M := by
  have e : fSplit (.str a) [.str b] M = .ok (.lst ((Txt.split a b).map D.str)) M := if_pos ⟨h0, h⟩
  rw [e]
  rfl
theorem step_in_ok {M : Mem} {s : Stp} {Q : D → Mem → Prop} (h : WrOk s) (q : Q (stD s) M) : Go (f_step_in [.str (txt s)] M) Q := by
  rw [f_step_in, go_callD, show startD 2 [D.str (txt s)] = [some (.str (txt s)), none] from rfl, m_step_in]
  rw [go_ret]
  simp only [go_bin, go_un, go_var, go_c, go_test, go_andT, go_orT, go_notT, go_yes, go_andV, go_if, go_nil, go_cons, go_tup, go_lst, go_lstC, go_cb, go_call, go_callW, go_meth, go_noPart, go_part, go_sl, go_get, go_retN, go_lc, go_dc, go_iter, go_enum, go_rng, go_rng1, go_rng2, go_rng3, go_disp, go_pnil, go_pcons, go_bdT, go_bdF, go_ok, go_nx, go_rt, go_addI, go_addS, go_addT, go_addL, go_subI, go_mulI, go_mulL, go_modI, go_fdivI, go_powI, go_ltI, go_leI, go_gtI, go_geI, go_eqI, go_eqS, go_neI, go_neS, go_ixF, go_ixT, go_ixS, go_ixD, go_slT, go_slF, go_slR, go_slS, go_revF, go_revCF, go_revAT, go_revAL, List.getElem?_cons_zero, List.getElem?_cons_succ, List.set_cons_zero, List.set_cons_succ, List.length_cons, List.length_nil, D.int.injEq, D.bl.injEq, D.str.injEq, Option.some.injEq, exists_eq_left', go_listF, go_listT, go_tupleF, go_tupleT, go_lenF, go_lenT, go_lenS, go_isiS, go_isiI, go_intI, go_intB, go_maxI, it_lst, it_tupD, it_strD, en_lst, en_tup, fr_gN, wipeD, go_inTab, go_notInTab, go_tab, go_lc2, go_par2, go_par3]
  have tl := txt_len s h
  refine ⟨rfl, ?_⟩
  rw [go_split (by decide) (by omega), split_txt h]
  simp only [go_bin, go_un, go_var, go_c, go_test, go_andT, go_orT, go_notT, go_yes, go_andV, go_if, go_nil, go_cons, go_tup, go_lst, go_lstC, go_cb, go_call, go_callW, go_meth, go_noPart, go_part, go_sl, go_get, go_retN, go_lc, go_dc, go_iter, go_enum, go_rng, go_rng1, go_rng2, go_rng3, go_disp, go_pnil, go_pcons, go_bdT, go_bdF, go_ok, go_nx, go_rt, go_addI, go_addS, go_addT, go_addL, go_subI, go_mulI, go_mulL, go_modI, go_fdivI, go_powI, go_ltI, go_leI, go_gtI, go_geI, go_eqI, go_eqS, go_neI, go_neS, go_ixF, go_ixT, go_ixS, go_ixD, go_slT, go_slF, go_slR, go_slS, go_revF, go_revCF, go_revAT, go_revAL, List.getElem?_cons_zero, List.getElem?_cons_succ, List.set_cons_zero, List.set_cons_succ, List.length_cons, List.length_nil, D.int.injEq, D.bl.injEq, D.str.injEq, Option.some.injEq, exists_eq_left', go_listF, go_listT, go_tupleF, go_tupleT, go_lenF, go_lenT, go_lenS, go_isiS, go_isiI, go_intI, go_intB, go_maxI, it_lst, it_tupD, it_strD, en_lst, en_tup, fr_gN, wipeD, go_inTab, go_notInTab, go_tab, go_lc2, go_par2, go_par3]
  have e2 : (wsS s).map D.str = (.s s.w :: .s s.n :: s.os : List O).map fun o => D.str (oS o) := by
    show D.str s.w :: D.str s.n :: (s.os.map oS).map D.str = D.str s.w :: D.str s.n :: s.os.map _
    rw [List.map_map]
    rfl
  have hl := h.le
  rw [e2]
  refine go_comp (fun rem acc M' => M' = M ∧ ∃ pre post : List O, (.s s.w :: .s s.n :: s.os : List O) = pre ++ post ∧ (rem = post.map fun o => D.str (oS o)) ∧ acc = pre.map od) ?_ ?_ _ _ _ ⟨rfl, [], _, rfl, rfl, rfl⟩
  · rintro d rem acc M' ⟨rfl, pre, post, ep, er, rfl⟩
    cases post with
    | nil => cases er
    | cons o post =>
      cases er
      refine ⟨trivial, _, rfl, ?_⟩
      have ho : o ∈ (.s s.w :: .s s.n :: s.os : List O) := by rw [ep]; simp
      have len : pre.length ≤ 5 := by
        have : (O.s s.w :: O.s s.n :: s.os).length = pre.length + (post.length + 1) := by rw [ep, List.length_append, List.length_cons]
        rw [List.length_cons, List.length_cons] at this
        omega
      simp only [go_bin, go_un, go_var, go_c, go_test, go_andT, go_orT, go_notT, go_yes, go_andV, go_if, go_nil, go_cons, go_tup, go_lst, go_lstC, go_cb, go_call, go_callW, go_meth, go_noPart, go_part, go_sl, go_get, go_retN, go_lc, go_dc, go_iter, go_enum, go_rng, go_rng1, go_rng2, go_rng3, go_disp, go_pnil, go_pcons, go_bdT, go_bdF, go_ok, go_nx, go_rt, go_addI, go_addS, go_addT, go_addL, go_subI, go_mulI, go_mulL, go_modI, go_fdivI, go_powI, go_ltI, go_leI, go_gtI, go_geI, go_eqI, go_eqS, go_neI, go_neS, go_ixF, go_ixT, go_ixS, go_ixD, go_slT, go_slF, go_slR, go_slS, go_revF, go_revCF, go_revAT, go_revAL, List.getElem?_cons_zero, List.getElem?_cons_succ, List.set_cons_zero, List.set_cons_succ, List.length_cons, List.length_nil, D.int.injEq, D.bl.injEq, D.str.injEq, Option.some.injEq, exists_eq_left', go_listF, go_listT, go_tupleF, go_tupleT, go_lenF, go_lenT, go_lenS, go_isiS, go_isiI, go_intI, go_intB, go_maxI, it_lst, it_tupD, it_strD, en_lst, en_tup, fr_gN, wipeD, go_inTab, go_notInTab, go_tab, go_lc2, go_par2, go_par3, if_true]
      refine ⟨trivial, ?_⟩
      have fin : (pre.map od).length + 1 ≤ 100000 ∧ M' = M' ∧ ∃ pre' post', (O.s s.w :: O.s s.n :: s.os) = pre' ++ post' ∧ (post.map fun o => D.str (oS o)) = (post'.map fun o => D.str (oS o)) ∧ (pre.map od) ++ [od o] = pre'.map od :=
        ⟨by rw [List.length_map]; omega, rfl, pre ++ [o], post, by rw [ep]; simp, rfl, by rw [List.map_append]; rfl⟩
      cases o with
      | s x =>
        refine thing_in_w ?_ fin
        rcases List.mem_cons.mp ho with z | ho
        · cases z
          exact h.w
        rcases List.mem_cons.mp ho with z | ho
        · cases z
          exact h.n
        exact h.az x ho
      | i k =>
        have hk : 0 ≤ k ∧ k ≤ 3 := h.is k (by
          rcases List.mem_cons.mp ho with z | ho
          · cases z
          rcases List.mem_cons.mp ho with z | ho
          · cases z
          exact ho)
        exact thing_in_i hk.1 hk.2 fin
  · rintro acc M' ⟨rfl, pre, post, ep, er, rfl⟩
    have : post = [] := by
      cases post with
      | nil => rfl
      | cons s post => cases er
    subst this
    rw [List.append_nil] at ep
    subst ep
    exact ⟨trivial, go_fin_same (frz_low (low_st _ s)) q⟩
end Sk

namespace Sk
open PySem PySem.Spec PyProof.Rows L2 Ly
theorem kn_vals {ss : List Stp} (nd : (ss.map (·.n)).Nodup) : ((knK ss).map fun kv => (valD (knK ss) kv.1).getD .non) = ss.map stD := by
  have key : ∀ l : List Stp, (∀ s ∈ l, s ∈ ss) → ((kv stD (knT l)).map fun kv => (valD (knK ss) kv.1).getD .non) = l.map stD := by
    intro l
    induction l with
    | nil => intro _; rfl
    | cons s l ih =>
      intro h
      show (valD (knK ss) (.inr s.n)).getD .non :: ((kv stD (knT l)).map fun kv => (valD (knK ss) kv.1).getD .non) = stD s :: l.map stD
      rw [val_kn nd (h s List.mem_cons_self), ih fun t ht => h t (List.mem_cons_of_mem _ ht)]
      rfl
  exact key ss fun _ h => h
theorem knK_len (ss : List Stp) : (knK ss).length = ss.length := by
  unfold knK knT
  rw [kv_len, List.length_map]
theorem knK_snoc {ss : List Stp} {s : Stp} (h : s.n ∉ ss.map (·.n)) : putD (knK ss) (.inr s.n) (stD s) = knK (ss ++ [s]) := by
  unfold knK
  rw [put_new (by rw [knT_names]; exact h)]
  unfold knT
  rw [List.map_append]
  rfl
theorem SkOk.new {pre post : List Stp} {s : Stp} (ok : SkOk (pre ++ s :: post)) : s.n ∉ pre.map (·.n) := by
  have nd := ok.nd
  rw [List.map_append, List.nodup_append] at nd
  intro z
  exact nd.2.2 _ z _ (by simp) rfl
def numF (l : List D) (k : Nat) : List D := (l.zipIdx k).map fun p => .tup [.int (p.2 : Nat), p.1]
theorem read_sketch_ok {M : Mem} {ss : List Stp} {Q : D → Mem → Prop} (ok : SkOk ss) (hl : ss.length ≤ 16) (q : Q (.tup (ss.map stD)) M) : Go (f_read_sketch [.str (txts ss)] M) Q := by
  have wr : ∀ s ∈ ss, WrOk s := fun s hs => Fit.wr ok (ok.mem hs)
  have sum := txts_sum wr hl
  have tlen : (txts ss).length ≤ 1000 := by
    unfold txts
    rw [TL.join_eq]
    exact Nat.le_trans (join_len _ _) sum
  rw [f_read_sketch, go_callD, show startD 7 [D.str (txts ss)] = [some (.str (txts ss)), none, none, none, none, none, none] from rfl, m_read_sketch]
  rw [go_seq, go_ifS]
  simp only [go_bin, go_un, go_var, go_c, go_test, go_andT, go_orT, go_notT, go_yes, go_andV, go_if, go_nil, go_cons, go_tup, go_lst, go_lstC, go_cb, go_call, go_callW, go_meth, go_noPart, go_part, go_sl, go_get, go_retN, go_lc, go_dc, go_iter, go_enum, go_rng, go_rng1, go_rng2, go_rng3, go_disp, go_pnil, go_pcons, go_bdT, go_bdF, go_ok, go_nx, go_rt, go_addI, go_addS, go_addT, go_addL, go_subI, go_mulI, go_mulL, go_modI, go_fdivI, go_powI, go_ltI, go_leI, go_gtI, go_geI, go_eqI, go_eqS, go_neI, go_neS, go_ixF, go_ixT, go_ixS, go_ixD, go_slT, go_slF, go_slR, go_slS, go_revF, go_revCF, go_revAT, go_revAL, List.getElem?_cons_zero, List.getElem?_cons_succ, List.set_cons_zero, List.set_cons_succ, List.length_cons, List.length_nil, D.int.injEq, D.bl.injEq, D.str.injEq, Option.some.injEq, exists_eq_left', go_listF, go_listT, go_tupleF, go_tupleT, go_lenF, go_lenT, go_lenS, go_isiS, go_isiI, go_intI, go_intB, go_maxI, it_lst, it_tupD, it_strD, en_lst, en_tup, fr_gN, wipeD, go_inTab, go_notInTab, go_tab, go_lc2, go_par2, go_par3, Bool.not_true, Bool.false_eq_true, if_false]
  rw [go_next, go_seq, go_set]
  have dn : ∀ (env : Ly.Env) (Q' : D → Mem → Prop), Go (mDNew true env M) Q' = Q' (.ref M.length) (M ++ [.dic []]) := fun _ _ => rfl
  rw [dn]
  simp only [go_bin, go_un, go_var, go_c, go_test, go_andT, go_orT, go_notT, go_yes, go_andV, go_if, go_nil, go_cons, go_tup, go_lst, go_lstC, go_cb, go_call, go_callW, go_meth, go_noPart, go_part, go_sl, go_get, go_retN, go_lc, go_dc, go_iter, go_enum, go_rng, go_rng1, go_rng2, go_rng3, go_disp, go_pnil, go_pcons, go_bdT, go_bdF, go_ok, go_nx, go_rt, go_addI, go_addS, go_addT, go_addL, go_subI, go_mulI, go_mulL, go_modI, go_fdivI, go_powI, go_ltI, go_leI, go_gtI, go_geI, go_eqI, go_eqS, go_neI, go_neS, go_ixF, go_ixT, go_ixS, go_ixD, go_slT, go_slF, go_slR, go_slS, go_revF, go_revCF, go_revAT, go_revAL, List.getElem?_cons_zero, List.getElem?_cons_succ, List.set_cons_zero, List.set_cons_succ, List.length_cons, List.length_nil, D.int.injEq, D.bl.injEq, D.str.injEq, Option.some.injEq, exists_eq_left', go_listF, go_listT, go_tupleF, go_tupleT, go_lenF, go_lenT, go_lenS, go_isiS, go_isiI, go_intI, go_intB, go_maxI, it_lst, it_tupD, it_strD, en_lst, en_tup, fr_gN, wipeD, go_inTab, go_notInTab, go_tab, go_lc2, go_par2, go_par3]
  rw [go_seq, go_set]
  have lines : ∀ Q' : D → Mem → Prop, Q' (.lst ((ss.map txt).map D.str)) (M ++ [.dic []]) → Go (mIf (mTest (mBin opNe (mVar 0) (mC (.str "")))) (mMeth isStr fSplit (mVar 0) (mCons (mC (.str "\n")) mNil)) (mLst mNil) [some (.str (txts ss)), some (.ref M.length), none, none, none, none, none] (M ++ [.dic []])) Q' := by
    intro Q' hq
    simp only [go_bin, go_un, go_var, go_c, go_test, go_andT, go_orT, go_notT, go_yes, go_andV, go_if, go_nil, go_cons, go_tup, go_lst, go_lstC, go_cb, go_call, go_callW, go_meth, go_noPart, go_part, go_sl, go_get, go_retN, go_lc, go_dc, go_iter, go_enum, go_rng, go_rng1, go_rng2, go_rng3, go_disp, go_pnil, go_pcons, go_bdT, go_bdF, go_ok, go_nx, go_rt, go_addI, go_addS, go_addT, go_addL, go_subI, go_mulI, go_mulL, go_modI, go_fdivI, go_powI, go_ltI, go_leI, go_gtI, go_geI, go_eqI, go_eqS, go_neI, go_neS, go_ixF, go_ixT, go_ixS, go_ixD, go_slT, go_slF, go_slR, go_slS, go_revF, go_revCF, go_revAT, go_revAL, List.getElem?_cons_zero, List.getElem?_cons_succ, List.set_cons_zero, List.set_cons_succ, List.length_cons, List.length_nil, D.int.injEq, D.bl.injEq, D.str.injEq, Option.some.injEq, exists_eq_left', go_listF, go_listT, go_tupleF, go_tupleT, go_lenF, go_lenT, go_lenS, go_isiS, go_isiI, go_intI, go_intB, go_maxI, it_lst, it_tupD, it_strD, en_lst, en_tup, fr_gN, wipeD, go_inTab, go_notInTab, go_tab, go_lc2, go_par2, go_par3]
    by_cases ne : ss = []
    · subst ne
      rw [if_neg (by decide)]
      exact ⟨Nat.zero_le _, hq⟩
    · rw [if_pos (by simpa using txts_ne wr ne)]
      refine ⟨rfl, ?_⟩
      rw [go_split (by decide) (by omega), split_txts wr ne]
      exact hq
  refine lines _ ?_
  simp only [List.set_cons_succ, List.set_cons_zero]
  rw [go_seq, go_for]
  simp only [go_bin, go_un, go_var, go_c, go_test, go_andT, go_orT, go_notT, go_yes, go_andV, go_if, go_nil, go_cons, go_tup, go_lst, go_lstC, go_cb, go_call, go_callW, go_meth, go_noPart, go_part, go_sl, go_get, go_retN, go_lc, go_dc, go_iter, go_enum, go_rng, go_rng1, go_rng2, go_rng3, go_disp, go_pnil, go_pcons, go_bdT, go_bdF, go_ok, go_nx, go_rt, go_addI, go_addS, go_addT, go_addL, go_subI, go_mulI, go_mulL, go_modI, go_fdivI, go_powI, go_ltI, go_leI, go_gtI, go_geI, go_eqI, go_eqS, go_neI, go_neS, go_ixF, go_ixT, go_ixS, go_ixD, go_slT, go_slF, go_slR, go_slS, go_revF, go_revCF, go_revAT, go_revAL, List.getElem?_cons_zero, List.getElem?_cons_succ, List.set_cons_zero, List.set_cons_succ, List.length_cons, List.length_nil, D.int.injEq, D.bl.injEq, D.str.injEq, Option.some.injEq, exists_eq_left', go_listF, go_listT, go_tupleF, go_tupleT, go_lenF, go_lenT, go_lenS, go_isiS, go_isiI, go_intI, go_intB, go_maxI, it_lst, it_tupD, it_strD, en_lst, en_tup, fr_gN, wipeD, go_inTab, go_notInTab, go_tab, go_lc2, go_par2, go_par3]
  refine go_loop (fun rem env M' => ∃ pre post, ss = pre ++ post ∧ (∃ k, rem = numF ((post.map txt).map D.str) k) ∧ M' = M ++ [.dic (knK pre)] ∧ ∃ x y z, env = [some (.str (txts ss)), some (.ref M.length), some (.lst ((ss.map txt).map D.str)), x, y, z, none]) ?_ ?_ _ _ _ ⟨[], ss, rfl, ⟨0, rfl⟩, rfl, none, none, none, rfl⟩
  · rintro d rem env M' ⟨pre, post, e, ⟨k, er⟩, rfl, x, y, z, rfl⟩
    cases post with
    | nil => cases er
    | cons s post =>
      cases er
      subst e
      have hs : s ∈ pre ++ s :: post := by simp
      refine ⟨trivial, _, rfl, ?_⟩
      rw [go_seq, go_set]
      simp only [go_bin, go_un, go_var, go_c, go_test, go_andT, go_orT, go_notT, go_yes, go_andV, go_if, go_nil, go_cons, go_tup, go_lst, go_lstC, go_cb, go_call, go_callW, go_meth, go_noPart, go_part, go_sl, go_get, go_retN, go_lc, go_dc, go_iter, go_enum, go_rng, go_rng1, go_rng2, go_rng3, go_disp, go_pnil, go_pcons, go_bdT, go_bdF, go_ok, go_nx, go_rt, go_addI, go_addS, go_addT, go_addL, go_subI, go_mulI, go_mulL, go_modI, go_fdivI, go_powI, go_ltI, go_leI, go_gtI, go_geI, go_eqI, go_eqS, go_neI, go_neS, go_ixF, go_ixT, go_ixS, go_ixD, go_slT, go_slF, go_slR, go_slS, go_revF, go_revCF, go_revAT, go_revAL, List.getElem?_cons_zero, List.getElem?_cons_succ, List.set_cons_zero, List.set_cons_succ, List.length_cons, List.length_nil, D.int.injEq, D.bl.injEq, D.str.injEq, Option.some.injEq, exists_eq_left', go_listF, go_listT, go_tupleF, go_tupleT, go_lenF, go_lenT, go_lenS, go_isiS, go_isiI, go_intI, go_intB, go_maxI, it_lst, it_tupD, it_strD, en_lst, en_tup, fr_gN, wipeD, go_inTab, go_notInTab, go_tab, go_lc2, go_par2, go_par3]
      refine ⟨trivial, step_in_ok (wr s hs) ?_⟩
      rw [go_seq, go_ifS]
      simp only [go_bin, go_un, go_var, go_c, go_test, go_andT, go_orT, go_notT, go_yes, go_andV, go_if, go_nil, go_cons, go_tup, go_lst, go_lstC, go_cb, go_call, go_callW, go_meth, go_noPart, go_part, go_sl, go_get, go_retN, go_lc, go_dc, go_iter, go_enum, go_rng, go_rng1, go_rng2, go_rng3, go_disp, go_pnil, go_pcons, go_bdT, go_bdF, go_ok, go_nx, go_rt, go_addI, go_addS, go_addT, go_addL, go_subI, go_mulI, go_mulL, go_modI, go_fdivI, go_powI, go_ltI, go_leI, go_gtI, go_geI, go_eqI, go_eqS, go_neI, go_neS, go_ixF, go_ixT, go_ixS, go_ixD, go_slT, go_slF, go_slR, go_slS, go_revF, go_revCF, go_revAT, go_revAL, List.getElem?_cons_zero, List.getElem?_cons_succ, List.set_cons_zero, List.set_cons_succ, List.length_cons, List.length_nil, D.int.injEq, D.bl.injEq, D.str.injEq, Option.some.injEq, exists_eq_left', go_listF, go_listT, go_tupleF, go_tupleT, go_lenF, go_lenT, go_lenS, go_isiS, go_isiI, go_intI, go_intB, go_maxI, it_lst, it_tupD, it_strD, en_lst, en_tup, fr_gN, wipeD, go_inTab, go_notInTab, go_tab, go_lc2, go_par2, go_par3]
      refine ⟨trivial, fits_behind_ok (at_last M _) ok.pre (ok.fit pre s post rfl) ok.new ?_⟩
      simp only [D.bl.injEq, exists_eq_left', Bool.not_true, Bool.false_eq_true, if_false]
      rw [go_next, go_setItem]
      simp only [go_bin, go_un, go_var, go_c, go_test, go_andT, go_orT, go_notT, go_yes, go_andV, go_if, go_nil, go_cons, go_tup, go_lst, go_lstC, go_cb, go_call, go_callW, go_meth, go_noPart, go_part, go_sl, go_get, go_retN, go_lc, go_dc, go_iter, go_enum, go_rng, go_rng1, go_rng2, go_rng3, go_disp, go_pnil, go_pcons, go_bdT, go_bdF, go_ok, go_nx, go_rt, go_addI, go_addS, go_addT, go_addL, go_subI, go_mulI, go_mulL, go_modI, go_fdivI, go_powI, go_ltI, go_leI, go_gtI, go_geI, go_eqI, go_eqS, go_neI, go_neS, go_ixF, go_ixT, go_ixS, go_ixD, go_slT, go_slF, go_slR, go_slS, go_revF, go_revCF, go_revAT, go_revAL, List.getElem?_cons_zero, List.getElem?_cons_succ, List.set_cons_zero, List.set_cons_succ, List.length_cons, List.length_nil, D.int.injEq, D.bl.injEq, D.str.injEq, Option.some.injEq, exists_eq_left', go_listF, go_listT, go_tupleF, go_tupleT, go_lenF, go_lenT, go_lenS, go_isiS, go_isiI, go_intI, go_intB, go_maxI, it_lst, it_tupD, it_strD, en_lst, en_tup, fr_gN, wipeD, go_inTab, go_notInTab, go_tab, go_lc2, go_par2, go_par3, stD, at_1]
      have plen : pre.length ≤ 16 := by
        rw [List.length_append] at hl
        omega
      refine ⟨_, set_dic (at_last M _) (by rw [knK_len]; omega), pre ++ [s], post, by simp, ⟨k + 1, rfl⟩, ?_, _, _, _, rfl⟩
      rw [set_last]
      congr 3
      exact knK_snoc ok.new
  · rintro env M' ⟨pre, post, e, ⟨k, er⟩, rfl, x, y, z, rfl⟩
    have : post = [] := by
      cases post with
      | nil => rfl
      | cons s post => cases er
    subst this
    rw [List.append_nil] at e
    subst e
    refine ⟨trivial, ?_⟩
    rw [go_ret]
    simp only [go_bin, go_un, go_var, go_c, go_test, go_andT, go_orT, go_notT, go_yes, go_andV, go_if, go_nil, go_cons, go_tup, go_lst, go_lstC, go_cb, go_call, go_callW, go_meth, go_noPart, go_part, go_sl, go_get, go_retN, go_lc, go_dc, go_iter, go_enum, go_rng, go_rng1, go_rng2, go_rng3, go_disp, go_pnil, go_pcons, go_bdT, go_bdF, go_ok, go_nx, go_rt, go_addI, go_addS, go_addT, go_addL, go_subI, go_mulI, go_mulL, go_modI, go_fdivI, go_powI, go_ltI, go_leI, go_gtI, go_geI, go_eqI, go_eqS, go_neI, go_neS, go_ixF, go_ixT, go_ixS, go_ixD, go_slT, go_slF, go_slR, go_slS, go_revF, go_revCF, go_revAT, go_revAL, List.getElem?_cons_zero, List.getElem?_cons_succ, List.set_cons_zero, List.set_cons_succ, List.length_cons, List.length_nil, D.int.injEq, D.bl.injEq, D.str.injEq, Option.some.injEq, exists_eq_left', go_listF, go_listT, go_tupleF, go_tupleT, go_lenF, go_lenT, go_lenS, go_isiS, go_isiI, go_intI, go_intB, go_maxI, it_lst, it_tupD, it_strD, en_lst, en_tup, fr_gN, wipeD, go_inTab, go_notInTab, go_tab, go_lc2, go_par2, go_par3]
    have dd : dicOf (.ref M.length) (M ++ [.dic (knK ss)]) = some (knK ss) := by
      simp only [dicOf, at_last]
    rw [go_vals (d := .ref M.length) rfl dd (by rw [knK_len]; omega) (by show 6 < 7; decide), kn_vals ok.nd]
    simp only [go_bin, go_un, go_var, go_c, go_test, go_andT, go_orT, go_notT, go_yes, go_andV, go_if, go_nil, go_cons, go_tup, go_lst, go_lstC, go_cb, go_call, go_callW, go_meth, go_noPart, go_part, go_sl, go_get, go_retN, go_lc, go_dc, go_iter, go_enum, go_rng, go_rng1, go_rng2, go_rng3, go_disp, go_pnil, go_pcons, go_bdT, go_bdF, go_ok, go_nx, go_rt, go_addI, go_addS, go_addT, go_addL, go_subI, go_mulI, go_mulL, go_modI, go_fdivI, go_powI, go_ltI, go_leI, go_gtI, go_geI, go_eqI, go_eqS, go_neI, go_neS, go_ixF, go_ixT, go_ixS, go_ixD, go_slT, go_slF, go_slR, go_slS, go_revF, go_revCF, go_revAT, go_revAL, List.getElem?_cons_zero, List.getElem?_cons_succ, List.set_cons_zero, List.set_cons_succ, List.length_cons, List.length_nil, D.int.injEq, D.bl.injEq, D.str.injEq, Option.some.injEq, exists_eq_left', go_listF, go_listT, go_tupleF, go_tupleT, go_lenF, go_lenT, go_lenS, go_isiS, go_isiI, go_intI, go_intB, go_maxI, it_lst, it_tupD, it_strD, en_lst, en_tup, fr_gN, wipeD, go_inTab, go_notInTab, go_tab, go_lc2, go_par2, go_par3]
    exact go_fin_app (frz_low (low_sts _ ss)) q
end Sk

namespace Sk
open PySem PySem.Spec PyProof.Rows L2 Ly
/-! ### repr of sketches and their texts -/
theorem st_nm {ss : List Stp} (hs : SkOk ss) {s : Stp} (h : s ∈ ss) : Nm 32 s.n := (hs.mem h).nm.nm (by decide)
theorem st_formL_nm : ∀ p ∈ formL, Nm 32 p.1 := by decide +kernel
theorem st_rp_step {ss : List Stp} (hs : SkOk ss) {s : Stp} (h : s ∈ ss) : Rp 1 200 (stD s) := by
  have f := hs.mem h
  obtain ⟨z, hz, a⟩ := f.form
  have ol := os_le f
  have ho : ∀ d ∈ s.os.map od, Rp 0 32 d := fun d hd => by
    obtain ⟨o, ho, rfl⟩ := List.mem_map.mp hd
    obtain ⟨c, _, i⟩ := a.right o ho
    cases i with
    | n h1 h2 => exact (rp_intS (by omega) (by omega)).mono (Nat.le_refl _) (by decide)
    | k h1 h2 => exact (rp_intS (by omega) (by omega)).mono (Nat.le_refl _) (by decide)
    | s t => exact rp_str (st_nm hs t)
  have := rp_tup (rpl_cons (rp_str (st_formL_nm _ hz)) (rpl_cons (rp_str (st_nm hs h)) (rpl_all ho)))
  exact this.mono (by decide) (by rw [List.length_map]; omega)
theorem st_rp_sk {ss : List Stp} (hs : SkOk ss) (hl : ss.length ≤ 16) : Rp 2 5000 (.tup (ss.map stD)) := by
  refine (rp_tup (rpl_all (e := 1) (n := 200) fun d hd => ?_)).mono (Nat.le_refl _) (by rw [List.length_map]; omega)
  obtain ⟨s, h, rfl⟩ := List.mem_map.mp hd
  exact st_rp_step hs h
theorem Wok.low {x : Str} (h : Wok x) : ∀ c ∈ TL.tl x, c < 128 := by
  rcases h with h | rfl | rfl | rfl | rfl
  · exact fun c hc => by have := h.az c hc; omega
  all_goals decide +kernel
theorem txts_nm {ss : List Stp} (h : ∀ s ∈ ss, WrOk s) (hl : ss.length ≤ 16) : Nm 1000 (txts ss) := by
  refine ⟨?_, fun c hc => ?_⟩
  · show (txts ss).length ≤ 1000
    unfold txts
    rw [TL.join_eq]
    exact Nat.le_trans (join_len _ _) (txts_sum h hl)
  · have hc : c ∈ TL.tl (txts ss) := hc
    unfold txts at hc
    rw [TL.join_eq, TL.tl_join] at hc
    rcases mem_joinL hc with z | ⟨p, hp, z⟩
    · revert z
      have : ∀ c ∈ TL.tl ("\n" : Str), c < 128 := by decide +kernel
      exact this c
    · obtain ⟨x, hx, rfl⟩ := List.mem_map.mp hp
      obtain ⟨s, hs, rfl⟩ := List.mem_map.mp hx
      unfold txt at z
      rw [TL.join_eq, TL.tl_join] at z
      rcases mem_joinL z with z | ⟨p, hp, z⟩
      · revert z
        have : ∀ c ∈ TL.tl (" " : Str), c < 128 := by decide +kernel
        exact this c
      · obtain ⟨y, hy, rfl⟩ := List.mem_map.mp hp
        exact ((h s hs).ws y hy).low c z
theorem rp_two {d : D} {e n : Nat} (h : Rp e n d) : Rp (e + 1) (2 * n + 2) (.lst [d, d]) := by
  have := rp_lst (rpl_cons h (rpl_cons h (rpl_nil.mono (Nat.zero_le e) (Nat.zero_le 0))))
  exact this.mono (Nat.le_refl _) (by omega)
theorem go_addCL {M : Mem} {n : Nat} {ds es : List D} {Q : D → Mem → Prop} (h : M[n]? = some (.lst ds)) : Go (opAdd (.ref n) (.lst es) M) Q = (ds.length + es.length ≤ 100000 ∧ Q (.lst (ds ++ es)) M) := by
  have e : opAdd (.ref n) (.lst es) M = if szOk (ds.length + es.length) then .ok (.lst (ds ++ es)) M else .bad := by
    simp only [opAdd, lstM, h]
  rw [e, go_iteC]
  unfold szOk
  rw [decide_eq_true_eq]
  rfl
end Sk

namespace K18
open PySem PySem.Spec PyProof.Rows L2 Ly Sk
theorem e_draw : f__law_draw = Sk.f__law_draw := rfl
theorem e_deck : f__law_deck = Sk.f__law_deck := rfl
theorem e_names : f__law_names = Sk.f__law_names := rfl
theorem e_words : f__law_words = Sk.f__law_words := rfl
theorem e_sketch : f__law_sketch = Sk.f__law_sketch := rfl
theorem e_show : f_show_sketch = Sk.f_show_sketch := rfl
theorem e_read : f_read_sketch = Sk.f_read_sketch := rfl
theorem law_text_ok {M : Mem} {ss : List Stp} {Q : D → Mem → Prop} (h : ∀ s ∈ ss, WrOk s) (hl : ss.length ≤ 16) (q : Q (.str (txts ss)) M) : Go (f__law_text [.tup (ss.map stD)] M) Q := by
  rw [f__law_text, go_callD, show startD 3 [D.tup (ss.map stD)] = [some (.tup (ss.map stD)), none, none] from rfl, m__law_text]
  rw [go_ret]
  simp only [go_bin, go_un, go_var, go_c, go_test, go_andT, go_orT, go_notT, go_yes, go_andV, go_if, go_nil, go_cons, go_tup, go_lst, go_lstC, go_cb, go_call, go_callW, go_meth, go_noPart, go_part, go_sl, go_get, go_retN, go_lc, go_dc, go_iter, go_enum, go_rng, go_rng1, go_rng2, go_rng3, go_disp, go_pnil, go_pcons, go_bdT, go_bdF, go_ok, go_nx, go_rt, go_addI, go_addS, go_addT, go_addL, go_subI, go_mulI, go_mulL, go_modI, go_fdivI, go_powI, go_ltI, go_leI, go_gtI, go_geI, go_eqI, go_eqS, go_neI, go_neS, go_ixF, go_ixT, go_ixS, go_ixD, go_slT, go_slF, go_slR, go_slS, go_revF, go_revCF, go_revAT, go_revAL, List.getElem?_cons_zero, List.getElem?_cons_succ, List.set_cons_zero, List.set_cons_succ, List.length_cons, List.length_nil, D.int.injEq, D.bl.injEq, D.str.injEq, Option.some.injEq, exists_eq_left', go_listF, go_listT, go_tupleF, go_tupleT, go_lenF, go_lenT, go_lenS, go_isiS, go_isiI, go_intI, go_intB, go_maxI, it_lst, it_tupD, it_strD, en_lst, en_tup, fr_gN, wipeD, go_inTab, go_notInTab, go_tab, go_lc2, go_par2, go_par3]
  refine ⟨rfl, comp_txt hl trivial (fun s hs => ?_) ?_⟩
  · simp only [go_bin, go_un, go_var, go_c, go_test, go_andT, go_orT, go_notT, go_yes, go_andV, go_if, go_nil, go_cons, go_tup, go_lst, go_lstC, go_cb, go_call, go_callW, go_meth, go_noPart, go_part, go_sl, go_get, go_retN, go_lc, go_dc, go_iter, go_enum, go_rng, go_rng1, go_rng2, go_rng3, go_disp, go_pnil, go_pcons, go_bdT, go_bdF, go_ok, go_nx, go_rt, go_addI, go_addS, go_addT, go_addL, go_subI, go_mulI, go_mulL, go_modI, go_fdivI, go_powI, go_ltI, go_leI, go_gtI, go_geI, go_eqI, go_eqS, go_neI, go_neS, go_ixF, go_ixT, go_ixS, go_ixD, go_slT, go_slF, go_slR, go_slS, go_revF, go_revCF, go_revAT, go_revAL, List.getElem?_cons_zero, List.getElem?_cons_succ, List.set_cons_zero, List.set_cons_succ, List.length_cons, List.length_nil, D.int.injEq, D.bl.injEq, D.str.injEq, Option.some.injEq, exists_eq_left', go_listF, go_listT, go_tupleF, go_tupleT, go_lenF, go_lenT, go_lenS, go_isiS, go_isiI, go_intI, go_intB, go_maxI, it_lst, it_tupD, it_strD, en_lst, en_tup, fr_gN, wipeD, go_inTab, go_notInTab, go_tab, go_lc2, go_par2, go_par3, stD]
    refine ⟨rfl, show_comp (h s hs) trivial (fun d => rfl) ?_⟩
    have := ws_sum s (h s hs)
    rw [go_joinL (by omega)]
    exact ⟨rfl, rfl⟩
  · have := txts_sum h hl
    rw [go_joinL (by omega)]
    exact go_fin_same (frz_low rfl) q
theorem right_ok {M : Mem} {ss : List Stp} {Q : D → Mem → Prop} (ok : SkOk ss) (hl : ss.length ≤ 16) (q : Q (.bl true) M) : Go (f__law_right [.tup (ss.map stD)] M) Q := by
  have wr : ∀ s ∈ ss, WrOk s := fun s hs => Fit.wr ok (ok.mem hs)
  have rs := st_rp_sk ok hl
  have rt : Rp 0 1000 (.str (txts ss)) := rp_str (txts_nm wr hl)
  have r2 := rp_two rs
  rw [f__law_right, go_callD, show startD 4 [D.tup (ss.map stD)] = [some (.tup (ss.map stD)), none, none, none] from rfl, m__law_right]
  rw [e_show, e_read]
  rw [go_seq, go_par2]
  simp only [go_bin, go_un, go_var, go_c, go_test, go_andT, go_orT, go_notT, go_yes, go_andV, go_if, go_nil, go_cons, go_tup, go_lst, go_lstC, go_cb, go_call, go_callW, go_meth, go_noPart, go_part, go_sl, go_get, go_retN, go_lc, go_dc, go_iter, go_enum, go_rng, go_rng1, go_rng2, go_rng3, go_disp, go_pnil, go_pcons, go_bdT, go_bdF, go_ok, go_nx, go_rt, go_addI, go_addS, go_addT, go_addL, go_subI, go_mulI, go_mulL, go_modI, go_fdivI, go_powI, go_ltI, go_leI, go_gtI, go_geI, go_eqI, go_eqS, go_neI, go_neS, go_ixF, go_ixT, go_ixS, go_ixD, go_slT, go_slF, go_slR, go_slS, go_revF, go_revCF, go_revAT, go_revAL, List.getElem?_cons_zero, List.getElem?_cons_succ, List.set_cons_zero, List.set_cons_succ, List.length_cons, List.length_nil, D.int.injEq, D.bl.injEq, D.str.injEq, Option.some.injEq, exists_eq_left', go_listF, go_listT, go_tupleF, go_tupleT, go_lenF, go_lenT, go_lenS, go_isiS, go_isiI, go_intI, go_intB, go_maxI, it_lst, it_tupD, it_strD, en_lst, en_tup, fr_gN, wipeD, go_inTab, go_notInTab, go_tab, go_lc2, go_par2, go_par3, go_shw rs (by decide) (by decide)]
  refine ⟨trivial, law_text_ok wr hl ?_⟩
  refine ⟨_, _, rfl, ?_⟩
  rw [go_seq, go_ifS]
  simp only [go_bin, go_un, go_var, go_c, go_test, go_andT, go_orT, go_notT, go_yes, go_andV, go_if, go_nil, go_cons, go_tup, go_lst, go_lstC, go_cb, go_call, go_callW, go_meth, go_noPart, go_part, go_sl, go_get, go_retN, go_lc, go_dc, go_iter, go_enum, go_rng, go_rng1, go_rng2, go_rng3, go_disp, go_pnil, go_pcons, go_bdT, go_bdF, go_ok, go_nx, go_rt, go_addI, go_addS, go_addT, go_addL, go_subI, go_mulI, go_mulL, go_modI, go_fdivI, go_powI, go_ltI, go_leI, go_gtI, go_geI, go_eqI, go_eqS, go_neI, go_neS, go_ixF, go_ixT, go_ixS, go_ixD, go_slT, go_slF, go_slR, go_slS, go_revF, go_revCF, go_revAT, go_revAL, List.getElem?_cons_zero, List.getElem?_cons_succ, List.set_cons_zero, List.set_cons_succ, List.length_cons, List.length_nil, D.int.injEq, D.bl.injEq, D.str.injEq, Option.some.injEq, exists_eq_left', go_listF, go_listT, go_tupleF, go_tupleT, go_lenF, go_lenT, go_lenS, go_isiS, go_isiI, go_intI, go_intB, go_maxI, it_lst, it_tupD, it_strD, en_lst, en_tup, fr_gN, wipeD, go_inTab, go_notInTab, go_tab, go_lc2, go_par2, go_par3]
  refine ⟨trivial, show_sketch_ok wr hl ?_⟩
  simp only [go_bin, go_un, go_var, go_c, go_test, go_andT, go_orT, go_notT, go_yes, go_andV, go_if, go_nil, go_cons, go_tup, go_lst, go_lstC, go_cb, go_call, go_callW, go_meth, go_noPart, go_part, go_sl, go_get, go_retN, go_lc, go_dc, go_iter, go_enum, go_rng, go_rng1, go_rng2, go_rng3, go_disp, go_pnil, go_pcons, go_bdT, go_bdF, go_ok, go_nx, go_rt, go_addI, go_addS, go_addT, go_addL, go_subI, go_mulI, go_mulL, go_modI, go_fdivI, go_powI, go_ltI, go_leI, go_gtI, go_geI, go_eqI, go_eqS, go_neI, go_neS, go_ixF, go_ixT, go_ixS, go_ixD, go_slT, go_slF, go_slR, go_slS, go_revF, go_revCF, go_revAT, go_revAL, List.getElem?_cons_zero, List.getElem?_cons_succ, List.set_cons_zero, List.set_cons_succ, List.length_cons, List.length_nil, D.int.injEq, D.bl.injEq, D.str.injEq, Option.some.injEq, exists_eq_left', go_listF, go_listT, go_tupleF, go_tupleT, go_lenF, go_lenT, go_lenS, go_isiS, go_isiI, go_intI, go_intB, go_maxI, it_lst, it_tupD, it_strD, en_lst, en_tup, fr_gN, wipeD, go_inTab, go_notInTab, go_tab, go_lc2, go_par2, go_par3, decide_true, Bool.not_true, Bool.false_eq_true, if_false]
  refine ⟨trivial, show_sketch_ok wr hl ?_⟩
  simp only [go_bin, go_un, go_var, go_c, go_test, go_andT, go_orT, go_notT, go_yes, go_andV, go_if, go_nil, go_cons, go_tup, go_lst, go_lstC, go_cb, go_call, go_callW, go_meth, go_noPart, go_part, go_sl, go_get, go_retN, go_lc, go_dc, go_iter, go_enum, go_rng, go_rng1, go_rng2, go_rng3, go_disp, go_pnil, go_pcons, go_bdT, go_bdF, go_ok, go_nx, go_rt, go_addI, go_addS, go_addT, go_addL, go_subI, go_mulI, go_mulL, go_modI, go_fdivI, go_powI, go_ltI, go_leI, go_gtI, go_geI, go_eqI, go_eqS, go_neI, go_neS, go_ixF, go_ixT, go_ixS, go_ixD, go_slT, go_slF, go_slR, go_slS, go_revF, go_revCF, go_revAT, go_revAL, List.getElem?_cons_zero, List.getElem?_cons_succ, List.set_cons_zero, List.set_cons_succ, List.length_cons, List.length_nil, D.int.injEq, D.bl.injEq, D.str.injEq, Option.some.injEq, exists_eq_left', go_listF, go_listT, go_tupleF, go_tupleT, go_lenF, go_lenT, go_lenS, go_isiS, go_isiI, go_intI, go_intB, go_maxI, it_lst, it_tupD, it_strD, en_lst, en_tup, fr_gN, wipeD, go_inTab, go_notInTab, go_tab, go_lc2, go_par2, go_par3, go_shw rt (by decide) (by decide), decide_true, Bool.not_true, Bool.false_eq_true, if_false]
  rw [go_next, go_seq, go_set]
  simp only [go_bin, go_un, go_var, go_c, go_test, go_andT, go_orT, go_notT, go_yes, go_andV, go_if, go_nil, go_cons, go_tup, go_lst, go_lstC, go_cb, go_call, go_callW, go_meth, go_noPart, go_part, go_sl, go_get, go_retN, go_lc, go_dc, go_iter, go_enum, go_rng, go_rng1, go_rng2, go_rng3, go_disp, go_pnil, go_pcons, go_bdT, go_bdF, go_ok, go_nx, go_rt, go_addI, go_addS, go_addT, go_addL, go_subI, go_mulI, go_mulL, go_modI, go_fdivI, go_powI, go_ltI, go_leI, go_gtI, go_geI, go_eqI, go_eqS, go_neI, go_neS, go_ixF, go_ixT, go_ixS, go_ixD, go_slT, go_slF, go_slR, go_slS, go_revF, go_revCF, go_revAT, go_revAL, List.getElem?_cons_zero, List.getElem?_cons_succ, List.set_cons_zero, List.set_cons_succ, List.length_cons, List.length_nil, D.int.injEq, D.bl.injEq, D.str.injEq, Option.some.injEq, exists_eq_left', go_listF, go_listT, go_tupleF, go_tupleT, go_lenF, go_lenT, go_lenS, go_isiS, go_isiI, go_intI, go_intB, go_maxI, it_lst, it_tupD, it_strD, en_lst, en_tup, fr_gN, wipeD, go_inTab, go_notInTab, go_tab, go_lc2, go_par2, go_par3]
  refine ⟨trivial, read_sketch_ok ok hl ⟨trivial, show_sketch_ok wr hl ⟨trivial, read_sketch_ok ok hl ?_⟩⟩⟩
  simp only [Nat.reduceAdd, Nat.reduceLeDiff, true_and]
  rw [go_ret]
  simp only [go_bin, go_un, go_var, go_c, go_test, go_andT, go_orT, go_notT, go_yes, go_andV, go_if, go_nil, go_cons, go_tup, go_lst, go_lstC, go_cb, go_call, go_callW, go_meth, go_noPart, go_part, go_sl, go_get, go_retN, go_lc, go_dc, go_iter, go_enum, go_rng, go_rng1, go_rng2, go_rng3, go_disp, go_pnil, go_pcons, go_bdT, go_bdF, go_ok, go_nx, go_rt, go_addI, go_addS, go_addT, go_addL, go_subI, go_mulI, go_mulL, go_modI, go_fdivI, go_powI, go_ltI, go_leI, go_gtI, go_geI, go_eqI, go_eqS, go_neI, go_neS, go_ixF, go_ixT, go_ixS, go_ixD, go_slT, go_slF, go_slR, go_slS, go_revF, go_revCF, go_revAT, go_revAL, List.getElem?_cons_zero, List.getElem?_cons_succ, List.set_cons_zero, List.set_cons_succ, List.length_cons, List.length_nil, D.int.injEq, D.bl.injEq, D.str.injEq, Option.some.injEq, exists_eq_left', go_listF, go_listT, go_tupleF, go_tupleT, go_lenF, go_lenT, go_lenS, go_isiS, go_isiI, go_intI, go_intB, go_maxI, it_lst, it_tupD, it_strD, en_lst, en_tup, fr_gN, wipeD, go_inTab, go_notInTab, go_tab, go_lc2, go_par2, go_par3, Nat.reduceAdd, Nat.reduceLeDiff, true_and, go_shw r2 (by decide) (by decide), go_shw rs (by decide) (by decide), decide_true, if_true]
  exact go_fin_same (frz_low rfl) q
def skD (ss : List Stp) : D := .tup (ss.map stD)
theorem law_math (ns : List Int) (hn : ns.length ≤ 63) : ∃ M', f_law [scriptD ns] [] = .ok (.bl true) M' := by
  have main : Go (f_law [scriptD ns] []) fun d _ => d = .bl true := by
    have fin : ∀ M' : Mem, Go (finish [] (.bl true) M') fun d _ => d = .bl true := fun M' => go_finish (fun i hi => absurd hi (Nat.not_lt_zero _)) (frz_low rfl) rfl
    rw [f_law, go_callD, show startD 7 [scriptD ns] = [some (scriptD ns), none, none, none, none, none, none] from rfl, m_law]
    rw [e_deck, e_draw, e_names, e_words, e_sketch, e_show]
    rw [go_seq, go_set]
    simp only [go_bin, go_un, go_var, go_c, go_test, go_andT, go_orT, go_notT, go_yes, go_andV, go_if, go_nil, go_cons, go_tup, go_lst, go_lstC, go_cb, go_call, go_callW, go_meth, go_noPart, go_part, go_sl, go_get, go_retN, go_lc, go_dc, go_iter, go_enum, go_rng, go_rng1, go_rng2, go_rng3, go_disp, go_pnil, go_pcons, go_bdT, go_bdF, go_ok, go_nx, go_rt, go_addI, go_addS, go_addT, go_addL, go_subI, go_mulI, go_mulL, go_modI, go_fdivI, go_powI, go_ltI, go_leI, go_gtI, go_geI, go_eqI, go_eqS, go_neI, go_neS, go_ixF, go_ixT, go_ixS, go_ixD, go_slT, go_slF, go_slR, go_slS, go_revF, go_revCF, go_revAT, go_revAL, List.getElem?_cons_zero, List.getElem?_cons_succ, List.set_cons_zero, List.set_cons_succ, List.length_cons, List.length_nil, D.int.injEq, D.bl.injEq, D.str.injEq, Option.some.injEq, exists_eq_left', go_listF, go_listT, go_tupleF, go_tupleT, go_lenF, go_lenT, go_lenS, go_isiS, go_isiI, go_intI, go_intB, go_maxI, it_lst, it_tupD, it_strD, en_lst, en_tup, fr_gN, wipeD, go_inTab, go_notInTab, go_tab, go_lc2, go_par2, go_par3]
    refine ⟨trivial, deck_ok hn fun M0 h0 => ?_⟩
    rw [go_seq, go_set]
    simp only [go_bin, go_un, go_var, go_c, go_test, go_andT, go_orT, go_notT, go_yes, go_andV, go_if, go_nil, go_cons, go_tup, go_lst, go_lstC, go_cb, go_call, go_callW, go_meth, go_noPart, go_part, go_sl, go_get, go_retN, go_lc, go_dc, go_iter, go_enum, go_rng, go_rng1, go_rng2, go_rng3, go_disp, go_pnil, go_pcons, go_bdT, go_bdF, go_ok, go_nx, go_rt, go_addI, go_addS, go_addT, go_addL, go_subI, go_mulI, go_mulL, go_modI, go_fdivI, go_powI, go_ltI, go_leI, go_gtI, go_geI, go_eqI, go_eqS, go_neI, go_neS, go_ixF, go_ixT, go_ixS, go_ixD, go_slT, go_slF, go_slR, go_slS, go_revF, go_revCF, go_revAT, go_revAL, List.getElem?_cons_zero, List.getElem?_cons_succ, List.set_cons_zero, List.set_cons_succ, List.length_cons, List.length_nil, D.int.injEq, D.bl.injEq, D.str.injEq, Option.some.injEq, exists_eq_left', go_listF, go_listT, go_tupleF, go_tupleT, go_lenF, go_lenT, go_lenS, go_isiS, go_isiI, go_intI, go_intB, go_maxI, it_lst, it_tupD, it_strD, en_lst, en_tup, fr_gN, wipeD, go_inTab, go_notInTab, go_tab, go_lc2, go_par2, go_par3]
    refine ⟨Nat.zero_le _, ?_⟩
    rw [go_seq, go_for]
    simp only [go_bin, go_un, go_var, go_c, go_test, go_andT, go_orT, go_notT, go_yes, go_andV, go_if, go_nil, go_cons, go_tup, go_lst, go_lstC, go_cb, go_call, go_callW, go_meth, go_noPart, go_part, go_sl, go_get, go_retN, go_lc, go_dc, go_iter, go_enum, go_rng, go_rng1, go_rng2, go_rng3, go_disp, go_pnil, go_pcons, go_bdT, go_bdF, go_ok, go_nx, go_rt, go_addI, go_addS, go_addT, go_addL, go_subI, go_mulI, go_mulL, go_modI, go_fdivI, go_powI, go_ltI, go_leI, go_gtI, go_geI, go_eqI, go_eqS, go_neI, go_neS, go_ixF, go_ixT, go_ixS, go_ixD, go_slT, go_slF, go_slR, go_slS, go_revF, go_revCF, go_revAT, go_revAL, List.getElem?_cons_zero, List.getElem?_cons_succ, List.set_cons_zero, List.set_cons_succ, List.length_cons, List.length_nil, D.int.injEq, D.bl.injEq, D.str.injEq, Option.some.injEq, exists_eq_left', go_listF, go_listT, go_tupleF, go_tupleT, go_lenF, go_lenT, go_lenS, go_isiS, go_isiI, go_intI, go_intB, go_maxI, it_lst, it_tupD, it_strD, en_lst, en_tup, fr_gN, wipeD, go_inTab, go_notInTab, go_tab, go_lc2, go_par2, go_par3]
    refine ⟨rngOk_of (by decide) (by decide), ?_⟩
    have hL : M0.length = 2 := h0.len
    rw [hL]
    refine go_loop (fun rem env M' => rem.length ≤ 8 ∧ (∃ l : List Nat, rem = l.map (fun (i : Nat) => .int (0 + (i : Int))) ∧ ∀ i ∈ l, i < 8) ∧ ∃ sks : List (List Stp), DkIs (200 * (8 - rem.length)) [.lst (sks.map skD)] M' ∧ (∀ ss ∈ sks, SkOk ss ∧ ss.length ≤ 16) ∧ sks.length ≤ 8 - rem.length ∧ ∃ x y z : Option D, env = [some (scriptD ns), some (.ref 1), some (.ref 2), x, none, y, z]) ?_ ?_ _ _ _ ⟨Nat.le_refl 8, ⟨List.range 8, rfl, fun i hi => List.mem_range.mp hi⟩, [], (h0.mono (Nat.zero_le _)).push (.lst []), fun _ h => (nomatch h), Nat.le_refl _, none, none, none, rfl⟩
    · rintro d rem env M' ⟨hr, ⟨l, el, hlt⟩, sks, hd, hok, hlen, x, y, z, rfl⟩
      rw [List.length_cons] at hd hr hlen
      cases l with
      | nil => cases el
      | cons i l =>
        cases el
        have hi : i < 8 := hlt i List.mem_cons_self
        refine ⟨trivial, _, rfl, ?_⟩
        rw [go_seq, go_set]
        simp only [go_bin, go_un, go_var, go_c, go_test, go_andT, go_orT, go_notT, go_yes, go_andV, go_if, go_nil, go_cons, go_tup, go_lst, go_lstC, go_cb, go_call, go_callW, go_meth, go_noPart, go_part, go_sl, go_get, go_retN, go_lc, go_dc, go_iter, go_enum, go_rng, go_rng1, go_rng2, go_rng3, go_disp, go_pnil, go_pcons, go_bdT, go_bdF, go_ok, go_nx, go_rt, go_addI, go_addS, go_addT, go_addL, go_subI, go_mulI, go_mulL, go_modI, go_fdivI, go_powI, go_ltI, go_leI, go_gtI, go_geI, go_eqI, go_eqS, go_neI, go_neS, go_ixF, go_ixT, go_ixS, go_ixD, go_slT, go_slF, go_slR, go_slS, go_revF, go_revCF, go_revAT, go_revAL, List.getElem?_cons_zero, List.getElem?_cons_succ, List.set_cons_zero, List.set_cons_succ, List.length_cons, List.length_nil, D.int.injEq, D.bl.injEq, D.str.injEq, Option.some.injEq, exists_eq_left', go_listF, go_listT, go_tupleF, go_tupleT, go_lenF, go_lenT, go_lenS, go_isiS, go_isiI, go_intI, go_intB, go_maxI, it_lst, it_tupD, it_strD, en_lst, en_tup, fr_gN, wipeD, go_inTab, go_notInTab, go_tab, go_lc2, go_par2, go_par3]
        refine ⟨trivial, names_ok hd (by omega) fun xs M1 hx h1 => ?_⟩
        rw [go_seq, go_set]
        simp only [go_bin, go_un, go_var, go_c, go_test, go_andT, go_orT, go_notT, go_yes, go_andV, go_if, go_nil, go_cons, go_tup, go_lst, go_lstC, go_cb, go_call, go_callW, go_meth, go_noPart, go_part, go_sl, go_get, go_retN, go_lc, go_dc, go_iter, go_enum, go_rng, go_rng1, go_rng2, go_rng3, go_disp, go_pnil, go_pcons, go_bdT, go_bdF, go_ok, go_nx, go_rt, go_addI, go_addS, go_addT, go_addL, go_subI, go_mulI, go_mulL, go_modI, go_fdivI, go_powI, go_ltI, go_leI, go_gtI, go_geI, go_eqI, go_eqS, go_neI, go_neS, go_ixF, go_ixT, go_ixS, go_ixD, go_slT, go_slF, go_slR, go_slS, go_revF, go_revCF, go_revAT, go_revAL, List.getElem?_cons_zero, List.getElem?_cons_succ, List.set_cons_zero, List.set_cons_succ, List.length_cons, List.length_nil, D.int.injEq, D.bl.injEq, D.str.injEq, Option.some.injEq, exists_eq_left', go_listF, go_listT, go_tupleF, go_tupleT, go_lenF, go_lenT, go_lenS, go_isiS, go_isiI, go_intI, go_intB, go_maxI, it_lst, it_tupD, it_strD, en_lst, en_tup, fr_gN, wipeD, go_inTab, go_notInTab, go_tab, go_lc2, go_par2, go_par3]
        refine ⟨trivial, draw_ok h1 (by omega) (by decide) (by decide) fun r M2 r0 r1 h2 => ?_⟩
        simp only [go_bin, go_un, go_var, go_c, go_test, go_andT, go_orT, go_notT, go_yes, go_andV, go_if, go_nil, go_cons, go_tup, go_lst, go_lstC, go_cb, go_call, go_callW, go_meth, go_noPart, go_part, go_sl, go_get, go_retN, go_lc, go_dc, go_iter, go_enum, go_rng, go_rng1, go_rng2, go_rng3, go_disp, go_pnil, go_pcons, go_bdT, go_bdF, go_ok, go_nx, go_rt, go_addI, go_addS, go_addT, go_addL, go_subI, go_mulI, go_mulL, go_modI, go_fdivI, go_powI, go_ltI, go_leI, go_gtI, go_geI, go_eqI, go_eqS, go_neI, go_neS, go_ixF, go_ixT, go_ixS, go_ixD, go_slT, go_slF, go_slR, go_slS, go_revF, go_revCF, go_revAT, go_revAL, List.getElem?_cons_zero, List.getElem?_cons_succ, List.set_cons_zero, List.set_cons_succ, List.length_cons, List.length_nil, D.int.injEq, D.bl.injEq, D.str.injEq, Option.some.injEq, exists_eq_left', go_listF, go_listT, go_tupleF, go_tupleT, go_lenF, go_lenT, go_lenS, go_isiS, go_isiI, go_intI, go_intB, go_maxI, it_lst, it_tupD, it_strD, en_lst, en_tup, fr_gN, wipeD, go_inTab, go_notInTab, go_tab, go_lc2, go_par2, go_par3, Nat.reduceAdd, Nat.reduceLeDiff, true_and]
        obtain ⟨many, e, m0, m1⟩ : ∃ many : Int, atI [D.int 14, D.int (2 + r), D.int 0] ((if decide (0 < 0 + (i : Int)) = true then 1 else 0) + (if decide (0 + (i : Int) = 7) = true then 1 else 0)) = some (.int many) ∧ 0 ≤ many ∧ many ≤ 14 := by
          by_cases h7 : i = 7
          · subst h7
            exact ⟨0, rfl, by decide, by decide⟩
          · by_cases hz : i = 0
            · subst hz
              exact ⟨14, rfl, by decide, by decide⟩
            · rw [if_pos (decide_eq_true (by omega)), if_neg (by simp only [decide_eq_true_eq]; omega)]
              exact ⟨2 + r, rfl, by omega, by omega⟩
        refine ⟨_, e, ?_⟩
        rw [go_drop]
        have c2 : M2[2]? = some (.lst (sks.map skD)) := h2.get 0
        simp only [go_bin, go_un, go_var, go_c, go_test, go_andT, go_orT, go_notT, go_yes, go_andV, go_if, go_nil, go_cons, go_tup, go_lst, go_lstC, go_cb, go_call, go_callW, go_meth, go_noPart, go_part, go_sl, go_get, go_retN, go_lc, go_dc, go_iter, go_enum, go_rng, go_rng1, go_rng2, go_rng3, go_disp, go_pnil, go_pcons, go_bdT, go_bdF, go_ok, go_nx, go_rt, go_addI, go_addS, go_addT, go_addL, go_subI, go_mulI, go_mulL, go_modI, go_fdivI, go_powI, go_ltI, go_leI, go_gtI, go_geI, go_eqI, go_eqS, go_neI, go_neS, go_ixF, go_ixT, go_ixS, go_ixD, go_slT, go_slF, go_slR, go_slS, go_revF, go_revCF, go_revAT, go_revAL, List.getElem?_cons_zero, List.getElem?_cons_succ, List.set_cons_zero, List.set_cons_succ, List.length_cons, List.length_nil, D.int.injEq, D.bl.injEq, D.str.injEq, Option.some.injEq, exists_eq_left', go_listF, go_listT, go_tupleF, go_tupleT, go_lenF, go_lenT, go_lenS, go_isiS, go_isiI, go_intI, go_intB, go_maxI, it_lst, it_tupD, it_strD, en_lst, en_tup, fr_gN, wipeD, go_inTab, go_notInTab, go_tab, go_lc2, go_par2, go_par3]
        refine ⟨isLst_ref c2, trivial, words_ok ⟨trivial, sketch_ok h2 (by omega) hx m0 m1 fun ss M3 g gl h3 => ?_⟩⟩
        have c3 : M3[2]? = some (.lst (sks.map skD)) := h3.get 0
        rw [go_append c3]
        refine ⟨by rw [List.length_map]; omega, by omega, ⟨l, rfl, fun j hj => hlt j (List.mem_cons_of_mem _ hj)⟩, sks ++ [ss], ?_, fun t ht => ?_, by rw [List.length_append, List.length_singleton]; omega, _, _, _, rfl⟩
        · rw [List.map_append]
          exact (h3.set 0 _).mono (by omega)
        · rcases List.mem_append.mp ht with ht | ht
          · exact hok t ht
          · rw [List.mem_singleton.mp ht]
            exact ⟨g.ok, g.le⟩
    · rintro env M' ⟨hr, ⟨l, el, hlt⟩, sks, hd, hok, hlen, x, y, z, rfl⟩
      refine ⟨trivial, ?_⟩
      have c2 : M'[2]? = some (.lst (sks.map skD)) := hd.get 0
      rw [go_seq, go_for]
      simp only [go_bin, go_un, go_var, go_c, go_test, go_andT, go_orT, go_notT, go_yes, go_andV, go_if, go_nil, go_cons, go_tup, go_lst, go_lstC, go_cb, go_call, go_callW, go_meth, go_noPart, go_part, go_sl, go_get, go_retN, go_lc, go_dc, go_iter, go_enum, go_rng, go_rng1, go_rng2, go_rng3, go_disp, go_pnil, go_pcons, go_bdT, go_bdF, go_ok, go_nx, go_rt, go_addI, go_addS, go_addT, go_addL, go_subI, go_mulI, go_mulL, go_modI, go_fdivI, go_powI, go_ltI, go_leI, go_gtI, go_geI, go_eqI, go_eqS, go_neI, go_neS, go_ixF, go_ixT, go_ixS, go_ixD, go_slT, go_slF, go_slR, go_slS, go_revF, go_revCF, go_revAT, go_revAL, List.getElem?_cons_zero, List.getElem?_cons_succ, List.set_cons_zero, List.set_cons_succ, List.length_cons, List.length_nil, D.int.injEq, D.bl.injEq, D.str.injEq, Option.some.injEq, exists_eq_left', go_listF, go_listT, go_tupleF, go_tupleT, go_lenF, go_lenT, go_lenS, go_isiS, go_isiI, go_intI, go_intB, go_maxI, it_lst, it_tupD, it_strD, en_lst, en_tup, fr_gN, wipeD, go_inTab, go_notInTab, go_tab, go_lc2, go_par2, go_par3, go_slC c2, go_addCL c2, cut_t2]
      refine ⟨by rw [List.length_take, List.length_map]; omega, ?_⟩
      refine go_loop (fun rem env M'' => M'' = M' ∧ (∀ d ∈ rem, ∃ ss, d = skD ss ∧ SkOk ss ∧ ss.length ≤ 16) ∧ ∃ w : Option D, env = [some (scriptD ns), some (.ref 1), some (.ref 2), x, w, y, z]) ?_ ?_ _ _ _ ⟨rfl, fun d hd' => ?_, none, rfl⟩
      · rintro d rem env M'' ⟨rfl, hall, w, rfl⟩
        obtain ⟨ss, rfl, ok, sl⟩ := hall d List.mem_cons_self
        refine ⟨trivial, _, rfl, ?_⟩
        rw [go_ifS]
        simp only [go_bin, go_un, go_var, go_c, go_test, go_andT, go_orT, go_notT, go_yes, go_andV, go_if, go_nil, go_cons, go_tup, go_lst, go_lstC, go_cb, go_call, go_callW, go_meth, go_noPart, go_part, go_sl, go_get, go_retN, go_lc, go_dc, go_iter, go_enum, go_rng, go_rng1, go_rng2, go_rng3, go_disp, go_pnil, go_pcons, go_bdT, go_bdF, go_ok, go_nx, go_rt, go_addI, go_addS, go_addT, go_addL, go_subI, go_mulI, go_mulL, go_modI, go_fdivI, go_powI, go_ltI, go_leI, go_gtI, go_geI, go_eqI, go_eqS, go_neI, go_neS, go_ixF, go_ixT, go_ixS, go_ixD, go_slT, go_slF, go_slR, go_slS, go_revF, go_revCF, go_revAT, go_revAL, List.getElem?_cons_zero, List.getElem?_cons_succ, List.set_cons_zero, List.set_cons_succ, List.length_cons, List.length_nil, D.int.injEq, D.bl.injEq, D.str.injEq, Option.some.injEq, exists_eq_left', go_listF, go_listT, go_tupleF, go_tupleT, go_lenF, go_lenT, go_lenS, go_isiS, go_isiI, go_intI, go_intB, go_maxI, it_lst, it_tupD, it_strD, en_lst, en_tup, fr_gN, wipeD, go_inTab, go_notInTab, go_tab, go_lc2, go_par2, go_par3]
        refine ⟨trivial, right_ok ok sl ⟨true, rfl, ?_⟩⟩
        rw [if_neg (by decide), go_next]
        exact ⟨rfl, fun d hd' => hall d (List.mem_cons_of_mem _ hd'), _, rfl⟩
      · rintro env M'' ⟨rfl, hall, w, rfl⟩
        refine ⟨trivial, ?_⟩
        rw [go_ret]
        simp only [go_bin, go_un, go_var, go_c, go_test, go_andT, go_orT, go_notT, go_yes, go_andV, go_if, go_nil, go_cons, go_tup, go_lst, go_lstC, go_cb, go_call, go_callW, go_meth, go_noPart, go_part, go_sl, go_get, go_retN, go_lc, go_dc, go_iter, go_enum, go_rng, go_rng1, go_rng2, go_rng3, go_disp, go_pnil, go_pcons, go_bdT, go_bdF, go_ok, go_nx, go_rt, go_addI, go_addS, go_addT, go_addL, go_subI, go_mulI, go_mulL, go_modI, go_fdivI, go_powI, go_ltI, go_leI, go_gtI, go_geI, go_eqI, go_eqS, go_neI, go_neS, go_ixF, go_ixT, go_ixS, go_ixD, go_slT, go_slF, go_slR, go_slS, go_revF, go_revCF, go_revAT, go_revAL, List.getElem?_cons_zero, List.getElem?_cons_succ, List.set_cons_zero, List.set_cons_succ, List.length_cons, List.length_nil, D.int.injEq, D.bl.injEq, D.str.injEq, Option.some.injEq, exists_eq_left', go_listF, go_listT, go_tupleF, go_tupleT, go_lenF, go_lenT, go_lenS, go_isiS, go_isiI, go_intI, go_intB, go_maxI, it_lst, it_tupD, it_strD, en_lst, en_tup, fr_gN, wipeD, go_inTab, go_notInTab, go_tab, go_lc2, go_par2, go_par3, Nat.reduceAdd, Nat.reduceLeDiff, true_and]
        have e3 : [D.tup [.str "free", .str "a"], .tup [.str "free", .str "b"], .tup [.str "middle", .str "m", .str "a", .str "b"]] = ([⟨"free", "a", []⟩, ⟨"free", "b", []⟩, ⟨"middle", "m", [.s "a", .s "b"]⟩] : List Stp).map stD := rfl
        rw [e3]
        refine show_sketch_ok (fun s hs => ?_) (by show 3 ≤ 16; decide) ?_
        · have wa : Wok "a" := .inl (by decide +kernel)
          have wb : Wok "b" := .inl (by decide +kernel)
          have wm : Wok "m" := .inl (by decide +kernel)
          have wf : Wok "free" := .inl (by decide +kernel)
          have wmi : Wok "middle" := .inl (by decide +kernel)
          simp only [List.mem_cons, List.not_mem_nil, or_false] at hs
          rcases hs with rfl | rfl | rfl
          · exact ⟨fun x hx => by
              simp only [wsS, List.map_nil, List.mem_cons, List.not_mem_nil, or_false] at hx
              rcases hx with rfl | rfl
              · exact wf
              · exact wa, by decide, fun k hk => (nomatch hk), fun x hx => (nomatch hx), by decide +kernel, by decide +kernel⟩
          · exact ⟨fun x hx => by
              simp only [wsS, List.map_nil, List.mem_cons, List.not_mem_nil, or_false] at hx
              rcases hx with rfl | rfl
              · exact wf
              · exact wb, by decide, fun k hk => (nomatch hk), fun x hx => (nomatch hx), by decide +kernel, by decide +kernel⟩
          · exact ⟨fun x hx => by
              simp only [wsS, List.map_cons, List.map_nil, oS, List.mem_cons, List.not_mem_nil, or_false] at hx
              rcases hx with rfl | rfl | rfl | rfl
              · exact wmi
              · exact wm
              · exact wa
              · exact wb, by show 2 ≤ 3; decide, fun k hk => by simp at hk, fun x hx => by
              simp only [List.mem_cons, List.not_mem_nil, or_false, O.s.injEq] at hx
              rcases hx with rfl | rfl <;> decide +kernel, by decide +kernel, by decide +kernel⟩
        · have e4 : decide (txts [⟨"free", "a", []⟩, ⟨"free", "b", []⟩, ⟨"middle", "m", [.s "a", .s "b"]⟩] = ("free a\nfree b\nmiddle m a b" : Str)) = true := by decide +kernel
          simp only [go_bin, go_un, go_var, go_c, go_test, go_andT, go_orT, go_notT, go_yes, go_andV, go_if, go_nil, go_cons, go_tup, go_lst, go_lstC, go_cb, go_call, go_callW, go_meth, go_noPart, go_part, go_sl, go_get, go_retN, go_lc, go_dc, go_iter, go_enum, go_rng, go_rng1, go_rng2, go_rng3, go_disp, go_pnil, go_pcons, go_bdT, go_bdF, go_ok, go_nx, go_rt, go_addI, go_addS, go_addT, go_addL, go_subI, go_mulI, go_mulL, go_modI, go_fdivI, go_powI, go_ltI, go_leI, go_gtI, go_geI, go_eqI, go_eqS, go_neI, go_neS, go_ixF, go_ixT, go_ixS, go_ixD, go_slT, go_slF, go_slR, go_slS, go_revF, go_revCF, go_revAT, go_revAL, List.getElem?_cons_zero, List.getElem?_cons_succ, List.set_cons_zero, List.set_cons_succ, List.length_cons, List.length_nil, D.int.injEq, D.bl.injEq, D.str.injEq, Option.some.injEq, exists_eq_left', go_listF, go_listT, go_tupleF, go_tupleT, go_lenF, go_lenT, go_lenS, go_isiS, go_isiI, go_intI, go_intB, go_maxI, it_lst, it_tupD, it_strD, en_lst, en_tup, fr_gN, wipeD, go_inTab, go_notInTab, go_tab, go_lc2, go_par2, go_par3, e4]
          exact fin _
      · have mem : d ∈ sks.map skD := by
          rcases List.mem_append.mp hd' with h | h
          · exact h
          · exact List.mem_of_mem_take h
        obtain ⟨ss, hs, rfl⟩ := List.mem_map.mp mem
        exact ⟨ss, rfl, (hok ss hs).1, (hok ss hs).2⟩
  obtain ⟨d, M', e, rfl⟩ := main.ok
  exact ⟨M', e⟩
end K18
theorem PySem.Challenge.cw_pointhouse_k18_sketches_written_and_read_holds : PySem.Challenge.rw_pointhouse_k18_sketches_written_and_read.Holds := by
  exact K18.holds_of fun ns hn _ => K18.law_math ns hn

